import PyProof.Rows.All
import Wide.All
import OpenK.AllK
import Wide.FinOn
import HandS.ForMost
import HandS.Wide
import HandS.Deep
import HandS.IsInst
import HandS.NoneIn
import HandS.Style
import HandS.Words
import HandS.WordsList
import HandS.TupAny
import HandS.Dict
import HandS.More
import HandS.SetFor
import HandS.ExcValue
import KE.SortData
import KE.DataFind
import PyProof.Rows.StrIntSpec
import PySem.Challenge.RW_cornersexact_k00_wide_numbers_in_order
set_option Elab.async false
set_option linter.all false
set_option maxRecDepth 100000
namespace Pl
open PySem PySem.Spec PyProof.Rows L2

/-! ### plain meanings: what is wanted of an answer -/
abbrev D := PyData
abbrev M (α : Type) := (α → Prop) → Prop
def ret {α : Type} (a : α) : M α := fun Q => Q a
def bnd {α β : Type} (m : M α) (f : α → M β) : M β := fun Q => m fun a => f a Q
def nope {α : Type} : M α := fun _ => False

/-- a slot: nothing, a value, a list of one's own that may still grow -/
inductive Sl where
  | no | va (d : D) | ow (ds : List D)
abbrev En := List Sl

/-! ### the heap -/
/-- all that is tracked stands, but the dict at aw may turn -/
def Fx (aw : Option Addr) (a : Addr) (o : HO) : Prop := some a = aw → ∀ kvs, o ≠ .dK kvs
theorem fx_ne {aw : Option Addr} {a : Addr} {o : HO} (n : some a ≠ aw) : Fx aw a o := fun z => (n z).elim
theorem fx_lst {aw : Option Addr} {a : Addr} {xs : List V} : Fx aw a (.lst xs) := fun _ _ z => nomatch z
theorem fx_tup {aw : Option Addr} {a : Addr} {xs : List V} : Fx aw a (.tup xs) := fun _ _ z => nomatch z
theorem fx_frz {aw : Option Addr} {a : Addr} {o : Obj} {u : HO} : Fx aw a (.frz o u) := fun _ _ z => nomatch z
structure Ext (aw : Option Addr) (H H' : Hp) : Prop where
  ap : ∀ a o, Fx aw a o → H a = some o → H' a = some o
  dk : ∀ x, aw = some x → ∀ kvs, H x = some (.dK kvs) → ∃ kvs', H' x = some (.dK kvs')
theorem Ext.refl (aw : Option Addr) (H : Hp) : Ext aw H H := ⟨fun _ _ _ h => h, fun _ _ kvs h => ⟨kvs, h⟩⟩
theorem Ext.trans {aw : Option Addr} {H H1 H2 : Hp} (x : Ext aw H H1) (y : Ext aw H1 H2) : Ext aw H H2 := ⟨fun a o n h => y.ap a o n (x.ap a o n h), fun z ez kvs h => let ⟨_, h1⟩ := x.dk z ez kvs h; y.dk z ez _ h1⟩
theorem Ext.new {aw : Option Addr} {H : Hp} {p : Addr} {o : HO} (h : H p = none) : Ext aw H (upd H p o) := ⟨fun a u _ e => by
  rw [upd_ne (ne_of_none e h)]; exact e, fun _ _ kvs e => ⟨kvs, by rw [upd_ne (ne_of_none e h)]; exact e⟩⟩
/-- an object that H does not know may change -/
theorem Ext.mut {aw : Option Addr} {H H' : Hp} {p : Addr} {o : HO} (e : Ext aw H H') (h : H p = none) : Ext aw H (upd H' p o) := ⟨fun a u n ha => by
  rw [upd_ne (ne_of_none ha h)]; exact e.ap a u n ha, fun z ez kvs ha => let ⟨k', h'⟩ := e.dk z ez kvs ha; ⟨k', by rw [upd_ne (ne_of_none ha h)]; exact h'⟩⟩
/-- what is seen without the own lists -/
def cut (H : Hp) (B : List Addr) : Hp := fun a => if a ∈ B then none else H a
theorem cut_nil (H : Hp) : cut H [] = H := by funext a; unfold cut; simp
theorem cut_some {H : Hp} {B : List Addr} {a : Addr} {o : HO} (h : cut H B a = some o) : H a = some o ∧ a ∉ B := by
  unfold cut at h
  by_cases e : a ∈ B
  · rw [if_pos e] at h; cases h
  · rw [if_neg e] at h; exact ⟨h, e⟩
theorem cut_of {H : Hp} {B : List Addr} {a : Addr} {o : HO} (h : H a = some o) (n : a ∉ B) : cut H B a = some o := by
  unfold cut; rw [if_neg n]; exact h
theorem cut_ext {aw : Option Addr} {H H' : Hp} {B : List Addr} (e : Ext aw H H') : Ext aw (cut H B) (cut H' B) := ⟨fun a o n h => by
  obtain ⟨h1, h2⟩ := cut_some h
  exact cut_of (e.ap a o n h1) h2, fun z ez kvs h => by
  obtain ⟨h1, h2⟩ := cut_some h
  obtain ⟨k', h'⟩ := e.dk z ez kvs h1
  exact ⟨k', cut_of h' h2⟩⟩
theorem cut_less {aw : Option Addr} {H : Hp} {B B' : List Addr} (s : ∀ a ∈ B', a ∈ B) : Ext aw (cut H B) (cut H B') := ⟨fun a o _ h => by
  obtain ⟨h1, h2⟩ := cut_some h
  exact cut_of h1 fun z => h2 (s a z), fun _ _ kvs h => by
  obtain ⟨h1, h2⟩ := cut_some h
  exact ⟨kvs, cut_of h1 fun z => h2 (s _ z)⟩⟩
theorem cut_upd {H : Hp} {B : List Addr} {p : Addr} {o : HO} (h : p ∈ B) : cut (upd H p o) B = cut H B := by
  funext a
  unfold cut
  by_cases e : a ∈ B
  · rw [if_pos e, if_pos e]
  · rw [if_neg e, if_neg e, upd_ne fun z => e (by rw [z]; exact h)]

/-- the world: the dict w with the draws and the place -/
def WorldW (a : Addr) (H : Hp) : Prop := ∃ (ld : Addr) (n : Int) (ns : List Int), H a = some (.dK [(.inr "draws", .ref ld), (.inr "at", .int n)]) ∧ H ld = some (.lst (ns.map V.int)) ∧ 0 ≤ n ∧ ns.length ≤ 100000
def World (aw : Option Addr) (H : Hp) : Prop := ∀ a, aw = some a → WorldW a H
def NT (H : Hp) (aw : Option Addr) : Prop := ∀ a, aw = some a → ∃ kvs, H a = some (.dK kvs)
theorem World.ne {aw : Option Addr} {H : Hp} (h : World aw H) : NT H aw := fun a e => by
  obtain ⟨_, _, _, h, _⟩ := h a e
  exact ⟨_, h⟩
theorem World.ext {aw : Option Addr} {H H' : Hp} (h : World aw H) (e : Ext aw H H') (ha : ∀ a, aw = some a → H' a = H a) : World aw H' := fun a ea => by
  obtain ⟨ld, n, ns, h1, h2, h3⟩ := h a ea
  exact ⟨ld, n, ns, by rw [ha a ea]; exact h1, e.ap ld _ fx_lst h2, h3⟩
theorem NT.new {aw : Option Addr} {H : Hp} {p : Addr} (n : NT H aw) (hp : H p = none) : some p ≠ aw := fun z => by
  obtain ⟨kvs, h⟩ := n p z.symm
  rw [hp] at h; cases h
/-- the script: known to the object, or an object of the module -/
def ScL (K : PySem.W.Frag) (H : Hp) (a : Addr) (xs : List V) : Prop := (∃ o, H a = some (.frz o (.lst xs))) ∨
  ∃ (o : Obj) (its : Array Value) (n : Nat), K.lookup a = some o ∧ o.cls = .type "list" ∧ o.dict = none ∧ o.data = .seq its n ∧ its.size ≤ sizeLine ∧ Vals xs its.toList
theorem ScL.sq {K : PySem.W.Frag} {H : Hp} {a : Addr} {xs : List V} (h : ScL K H a xs) : SqL K H a xs := by
  rcases h with ⟨o, h⟩ | h
  · exact .inl (.inr ⟨o, h⟩)
  · exact .inr h
theorem ScL.ext {K : PySem.W.Frag} {aw : Option Addr} {H H' : Hp} {a : Addr} {xs : List V} (h : ScL K H a xs) (e : Ext aw H H') : ScL K H' a xs := by
  rcases h with ⟨o, h⟩ | h
  · exact .inl ⟨o, e.ap _ _ fx_frz h⟩
  · exact .inr h

/-! ### what a value is worth -/
mutual
inductive Rp (K : PySem.W.Frag) (aw : Option Addr) (H : Hp) : V → D → Prop
  | non : Rp K aw H .non .none
  | bl (b : Bool) : Rp K aw H (.bl b) (.bool b)
  | int (i : Int) : Rp K aw H (.int i) (.int i)
  | str (x : Str) : Rp K aw H (.str x) (.str x)
  | lst {a : Addr} {xs : List V} {ds : List D} : H a = some (.lst xs) → RpA K aw H xs ds → Rp K aw H (.ref a) (.list ds)
  | tup {a : Addr} {xs : List V} {ds : List D} : SqT K H a xs → RpA K aw H xs ds → Rp K aw H (.ref a) (.tuple ds)
  | wld {a : Addr} {kvs : List (Key × V)} : aw = some a → H a = some (.dK kvs) → Rp K aw H (.ref a) (.dict [])
  | scr {a : Addr} {ns : List Int} : ScL K H a (ns.map V.int) → Rp K aw H (.ref a) (.dict [(.none, .list (ns.map PyData.int))])
inductive RpA (K : PySem.W.Frag) (aw : Option Addr) (H : Hp) : List V → List D → Prop
  | nil : RpA K aw H [] []
  | cons {v : V} {vs : List V} {d : D} {ds : List D} : Rp K aw H v d → RpA K aw H vs ds → RpA K aw H (v :: vs) (d :: ds)
end
theorem sqT_ext {K : PySem.W.Frag} {aw : Option Addr} {H H' : Hp} {a : Addr} {xs : List V} (hw : NT H aw) (e : Ext aw H H') (h : SqT K H a xs) : SqT K H' a xs := by
  rcases h with (h | ⟨o, h⟩) | h
  · exact .inl (.inl (e.ap _ _ fx_tup h))
  · exact .inl (.inr ⟨o, e.ap _ _ fx_frz h⟩)
  · exact .inr h
mutual
theorem Rp.ext {K : PySem.W.Frag} {aw : Option Addr} {H H' : Hp} (hw : NT H aw) (e : Ext aw H H') : ∀ {v : V} {d : D}, Rp K aw H v d → Rp K aw H' v d
  | _, _, .non => .non
  | _, _, .bl b => .bl b
  | _, _, .int b => .int b
  | _, _, .str b => .str b
  | _, _, .lst h r => .lst (e.ap _ _ fx_lst h) (RpA.ext hw e r)
  | _, _, .tup h r => .tup (sqT_ext hw e h) (RpA.ext hw e r)
  | _, _, .wld ea h => .wld ea (e.dk _ ea _ h).choose_spec
  | _, _, .scr h => .scr (h.ext e)
theorem RpA.ext {K : PySem.W.Frag} {aw : Option Addr} {H H' : Hp} (hw : NT H aw) (e : Ext aw H H') : ∀ {v : List V} {d : List D}, RpA K aw H v d → RpA K aw H' v d
  | _, _, .nil => .nil
  | _, _, .cons h r => .cons (Rp.ext hw e h) (RpA.ext hw e r)
end
section
variable {K : PySem.W.Frag} {aw : Option Addr} {H : Hp}
theorem RpA.length : ∀ {vs : List V} {ds : List D}, RpA K aw H vs ds → vs.length = ds.length
  | _, _, .nil => rfl
  | _, _, .cons _ r => by simp [RpA.length r]
theorem RpA.get : ∀ {vs : List V} {ds : List D} {i : Nat} {d : D}, RpA K aw H vs ds → ds[i]? = some d → ∃ v, vs[i]? = some v ∧ Rp K aw H v d
  | _, _, _, _, .nil, e => by simp at e
  | _, _, 0, _, .cons h _, e => by simp at e; subst e; exact ⟨_, rfl, h⟩
  | _, _, i + 1, _, .cons _ r, e => by
    obtain ⟨v, e1, e2⟩ := RpA.get (i := i) r (by simpa using e)
    exact ⟨v, by simpa using e1, e2⟩
theorem RpA.get' : ∀ {vs : List V} {ds : List D} {i : Nat} {v : V}, RpA K aw H vs ds → vs[i]? = some v → ∃ d, ds[i]? = some d ∧ Rp K aw H v d
  | _, _, _, _, .nil, e => by simp at e
  | _, _, 0, _, .cons h _, e => by simp at e; subst e; exact ⟨_, rfl, h⟩
  | _, _, i + 1, _, .cons _ r, e => by
    obtain ⟨v, e1, e2⟩ := RpA.get' (i := i) r (by simpa using e)
    exact ⟨v, by simpa using e1, e2⟩
theorem RpA.app : ∀ {vs ws : List V} {ds es : List D}, RpA K aw H vs ds → RpA K aw H ws es → RpA K aw H (vs ++ ws) (ds ++ es)
  | _, _, _, _, .nil, s => s
  | _, _, _, _, .cons h r, s => .cons h (RpA.app r s)
theorem RpA.take : ∀ {vs : List V} {ds : List D} (n : Nat), RpA K aw H vs ds → RpA K aw H (vs.take n) (ds.take n)
  | _, _, 0, _ => .nil
  | _, _, _ + 1, .nil => .nil
  | _, _, n + 1, .cons h r => .cons h (RpA.take n r)
theorem RpA.drop : ∀ {vs : List V} {ds : List D} (n : Nat), RpA K aw H vs ds → RpA K aw H (vs.drop n) (ds.drop n)
  | _, _, 0, r => r
  | _, _, _ + 1, .nil => .nil
  | _, _, n + 1, .cons _ r => RpA.drop n r
/-- no world within -/
def flatD : D → Bool
  | .dict _ => false
  | .list ds => flatA ds
  | .tuple ds => flatA ds
  | _ => true
where flatA : List D → Bool
  | [] => true
  | d :: ds => flatD d && flatA ds
mutual
theorem Rp.dp : ∀ {v : V} {d : D}, Rp K aw H v d → flatD d = true → Dp K H v d
  | _, _, .non, _ => .non
  | _, _, .bl b, _ => .bl b
  | _, _, .int b, _ => .int b
  | _, _, .str b, _ => .str b
  | _, _, .lst h r, f => .lst (.inl (.inl h)) (RpA.dp r (by simpa [flatD] using f))
  | _, _, .tup h r, f => .tup h (RpA.dp r (by simpa [flatD] using f))
  | _, _, .wld _ _, f => by simp [flatD] at f
  | _, _, .scr _, f => by simp [flatD] at f
theorem RpA.dp : ∀ {v : List V} {d : List D}, RpA K aw H v d → flatD.flatA d = true → DpAll K H v d
  | _, _, .nil, _ => .nil
  | _, _, .cons h r, f => by
    simp [flatD.flatA] at f
    exact .cons (Rp.dp h f.1) (RpA.dp r f.2)
end
theorem dp_less {B : List Addr} {v : V} {d : D} (h : Dp K (cut H B) v d) : Dp K H v d := by
  have key : (∀ v d, Dp K (cut H B) v d → Dp K H v d) ∧ (∀ vs ds, DpAll K (cut H B) vs ds → DpAll K H vs ds) := by
    have hl : ∀ a xs, SqL K (cut H B) a xs → SqL K H a xs := fun a xs h => by
      rcases h with (h | ⟨o, h⟩) | h
      · exact .inl (.inl (cut_some h).1)
      · exact .inl (.inr ⟨o, (cut_some h).1⟩)
      · exact .inr h
    have ht : ∀ a xs, SqT K (cut H B) a xs → SqT K H a xs := fun a xs h => by
      rcases h with (h | ⟨o, h⟩) | h
      · exact .inl (.inl (cut_some h).1)
      · exact .inl (.inr ⟨o, (cut_some h).1⟩)
      · exact .inr h
    constructor
    · intro v d h
      exact Dp.rec (motive_1 := fun v d _ => Dp K H v d) (motive_2 := fun vs ds _ => DpAll K H vs ds) .non .bl .int .str (fun h _ r => .lst (hl _ _ h) r) (fun h _ r => .tup (ht _ _ h) r) .nil (fun _ _ a b => .cons a b) h
    · intro v d h
      exact DpAll.rec (motive_1 := fun v d _ => Dp K H v d) (motive_2 := fun vs ds _ => DpAll K H vs ds) .non .bl .int .str (fun h _ r => .lst (hl _ _ h) r) (fun h _ r => .tup (ht _ _ h) r) .nil (fun _ _ a b => .cons a b) h
  exact key.1 v d h
end
theorem sqT_less {K : PySem.W.Frag} {H : Hp} {B : List Addr} {a : Addr} {xs : List V} (h : SqT K (cut H B) a xs) : SqT K H a xs := by
  rcases h with (h | ⟨o, h⟩) | h
  · exact .inl (.inl (cut_some h).1)
  · exact .inl (.inr ⟨o, (cut_some h).1⟩)
  · exact .inr h

/-! ### a state -/
/-- what a def found at its entry: the heap, the own lists of its callers -/
structure Gh where
  H0 : Hp
  Bc : List Addr
def SlOk (K : PySem.W.Frag) (aw : Option Addr) (G : Gh) (H : Hp) (B : List Addr) (s : Option V) : Sl → Prop
  | .no => True
  | .va d => ∃ v, s = some v ∧ Rp K aw (cut H B) v d
  | .ow ds => ∃ p xs, s = some (.ref p) ∧ p ∈ B ∧ G.H0 p = none ∧ p ∉ G.Bc ∧ H p = some (.lst xs) ∧ RpA K aw (cut H B) xs ds
/-- own lists stand apart -/
def Apart (σ : L2.St) (ρ : En) : Prop := ∀ (i j : Nat) (p : Addr) (ds es : List D), ρ[i]? = some (Sl.ow ds) → ρ[j]? = some (Sl.ow es) → σ[i]? = some (some (V.ref p)) → σ[j]? = some (some (V.ref p)) → i = j
structure Ok (K : PySem.W.Frag) (aw : Option Addr) (G : Gh) (B : List Addr) (σ : L2.St) (ρ : En) (H : Hp) : Prop where
  ext : Ext aw G.H0 H
  wld : World aw (cut H B)
  sub : ∀ p ∈ G.Bc, p ∈ B
  own : ∀ p ∈ B, ∃ xs, H p = some (.lst xs)
  len : σ.length = ρ.length
  env : ∀ (i : Nat) (s : Sl), ρ[i]? = some s → SlOk K aw G H B (σ[i]?.getD none) s
  apart : Apart σ ρ
section
variable {K : PySem.W.Frag} {aw : Option Addr} {G : Gh} {B : List Addr} {σ : L2.St} {ρ : En} {H H' : Hp}
theorem Ok.awB (o : Ok K aw G B σ ρ H) : ∀ a, aw = some a → a ∉ B := fun a ea z => by
  obtain ⟨kvs, h⟩ := o.wld.ne a ea
  exact (cut_some h).2 z
theorem Ok.grow (o : Ok K aw G B σ ρ H) (e : Ext aw H H') (w : World aw (cut H' B)) : Ok K aw G B σ ρ H' where
  ext := o.ext.trans e
  wld := w
  sub := o.sub
  own := fun p hp => by
    obtain ⟨xs, h⟩ := o.own p hp
    exact ⟨xs, e.ap p _ fx_lst h⟩
  len := o.len
  env := fun i s hs => by
    have q := o.env i s hs
    have ec : Ext aw (cut H B) (cut H' B) := cut_ext e
    cases s with
    | no => trivial
    | va d => obtain ⟨v, e1, r⟩ := q; exact ⟨v, e1, r.ext o.wld.ne ec⟩
    | ow ds => obtain ⟨p, xs, e1, hp, h0, hc, hx, r⟩ := q; exact ⟨p, xs, e1, hp, h0, hc, e.ap p _ fx_lst hx, RpA.ext o.wld.ne ec r⟩
  apart := o.apart
theorem Ok.get (o : Ok K aw G B σ ρ H) {i : Nat} {d : D} (h : ρ[i]? = some (.va d)) : ∃ v, σ[i]? = some (some v) ∧ Rp K aw (cut H B) v d := by
  obtain ⟨v, e, r⟩ := o.env i _ h
  refine ⟨v, ?_, r⟩
  cases q : σ[i]? with
  | none => rw [q] at e; cases e
  | some s => rw [q] at e; exact congrArg some e
theorem Ok.getO (o : Ok K aw G B σ ρ H) {i : Nat} {ds : List D} (h : ρ[i]? = some (.ow ds)) : ∃ p xs, σ[i]? = some (some (.ref p)) ∧ p ∈ B ∧ G.H0 p = none ∧ p ∉ G.Bc ∧ H p = some (.lst xs) ∧ RpA K aw (cut H B) xs ds := by
  obtain ⟨p, xs, e, r⟩ := o.env i _ h
  refine ⟨p, xs, ?_, r⟩
  cases q : σ[i]? with
  | none => rw [q] at e; cases e
  | some s => rw [q] at e; exact congrArg some e
theorem set_ow {ρ : En} {i j : Nat} {d : Sl} {ds : List D} (hd : ∀ es, d ≠ .ow es) (h : (ρ.set i d)[j]? = some (Sl.ow ds)) : i ≠ j ∧ ρ[j]? = some (Sl.ow ds) := by
  by_cases e : i = j
  · subst e
    by_cases hi : i < ρ.length
    · rw [List.getElem?_set_self hi] at h; exact absurd (Option.some.inj h) (hd _)
    · rw [List.getElem?_eq_none (by simpa using hi)] at h; cases h
  · rw [List.getElem?_set_ne e] at h; exact ⟨e, h⟩
/-- a value into a slot -/
theorem Ok.set (o : Ok K aw G B σ ρ H) {v : V} {d : D} (r : Rp K aw (cut H B) v d) (i : Nat) : Ok K aw G B (σ.set i (some v)) (ρ.set i (.va d)) H where
  ext := o.ext
  wld := o.wld
  sub := o.sub
  own := o.own
  len := by simp [o.len]
  env := fun j s hs => by
    by_cases e : i = j
    · subst e
      by_cases hi : i < ρ.length
      · rw [List.getElem?_set_self hi] at hs
        cases hs
        rw [List.getElem?_set_self (by rw [o.len]; exact hi)]
        exact ⟨v, rfl, r⟩
      · rw [List.getElem?_eq_none (by simpa using hi)] at hs; cases hs
    · rw [List.getElem?_set_ne e] at hs
      rw [List.getElem?_set_ne e]
      exact o.env j s hs
  apart := fun j k p ds es h1 h2 h3 h4 => by
    obtain ⟨nj, h1⟩ := set_ow (fun _ z => by cases z) h1
    obtain ⟨nk, h2⟩ := set_ow (fun _ z => by cases z) h2
    rw [List.getElem?_set_ne nj] at h3
    rw [List.getElem?_set_ne nk] at h4
    exact o.apart j k p ds es h1 h2 h3 h4
end

/-! ### the readings -/
def tM (K : PySem.W.Frag) (aw : Option Addr) (m : En → M D) : TE := fun σ H R => ∃ G B ρ Q, Ok K aw G B σ ρ H ∧ m ρ Q ∧ ∀ v H' d, Ext aw H H' → World aw (cut H' B) → Rp K aw (cut H' B) v d → Q d → R v H'
def tT (K : PySem.W.Frag) (aw : Option Addr) (m : En → M Bool) : TT := fun σ H R => ∃ G B ρ Q, Ok K aw G B σ ρ H ∧ m ρ Q ∧ ∀ H' b, Ext aw H H' → World aw (cut H' B) → Q b → R b H'
def tA (K : PySem.W.Frag) (aw : Option Addr) (m : En → M (List D)) : TA := fun σ H R => ∃ G B ρ Q, Ok K aw G B σ ρ H ∧ m ρ Q ∧ ∀ vs H' ds, Ext aw H H' → World aw (cut H' B) → RpA K aw (cut H' B) vs ds → Q ds → R vs H'
abbrev SE (X : Cx) (aw : Option Addr) (e : Expr) (m : En → M D) : Prop := PE X e (tM X.K aw m)
abbrev ST (X : Cx) (aw : Option Addr) (e : Expr) (m : En → M Bool) : Prop := PT X e (tT X.K aw m)
abbrev SA (X : Cx) (aw : Option Addr) (es : List Expr) (m : En → M (List D)) : Prop := PA X es (tA X.K aw m)
theorem pe_to {X : Cx} {e : Expr} {t t' : TE} (h : PE X e t) (i : ∀ σ H R, t' σ H R → t σ H R) : PE X e t' := ⟨fun pins s σ H Q I q => h.run pins s σ H Q I (i σ H Q q)⟩
theorem pt_to {X : Cx} {e : Expr} {t t' : TT} (h : PT X e t) (i : ∀ σ H R, t' σ H R → t σ H R) : PT X e t' := ⟨fun pins s σ H Q I q => h.run pins s σ H Q I (i σ H Q q)⟩
theorem pw_to {X : Cx} {e : Expr} {t t' : TT} (h : PW X e t) (i : ∀ σ H R, t' σ H R → t σ H R) : PW X e t' := ⟨fun wh pins s σ H Q I q => h.run wh pins s σ H Q I (i σ H Q q)⟩
theorem pa_to {X : Cx} {e : List Expr} {t t' : TA} (h : PA X e t) (i : ∀ σ H R, t' σ H R → t σ H R) : PA X e t' := ⟨fun pos pins s σ H Q I q => h.run pos pins s σ H Q I (i σ H Q q)⟩
theorem ps_to {X : Cx} {e : Stmt} {t t' : TS} (h : PS X e t) (i : ∀ D σ H, t' D σ H → t D σ H) : PS X e t' := ⟨fun pins s σ H D I q => h.run pins s σ H D I (i D σ H q)⟩
theorem pss_to {X : Cx} {e : List Stmt} {t t' : TS} (h : PSs X e t) (i : ∀ D σ H, t' D σ H → t D σ H) : PSs X e t' := ⟨fun pins s σ H D I q => h.run pins s σ H D I (i D σ H q)⟩

/-! ### expressions -/
def eVar (i : Nat) : En → M D := fun ρ Q => match ρ[i]? with
  | some (.va d) => Q d
  | _ => False
def eC (d : D) : En → M D := fun _ Q => Q d
section
variable {X : Cx} {aw : Option Addr} {a b : Expr} {m n : En → M D} {pos : Pos}
theorem se_var {i : Nat} {x : Str} (h : PE X (.Name x pos) (tVar i)) : SE X aw (.Name x pos) (eVar i) := pe_to h fun σ H R => by
  rintro ⟨G, B, ρ, Q, o, hm, k⟩
  unfold eVar at hm
  split at hm
  · rename_i d hd
    obtain ⟨v, e, r⟩ := o.get hd
    exact ⟨v, e, k v H d (.refl _ _) o.wld r hm⟩
  · cases hm
theorem se_c {e : Expr} {v : V} {d : D} (h : PE X e (tC v)) (r : ∀ H, Rp X.K aw H v d) : SE X aw e (eC d) := pe_to h fun σ H R => by
  rintro ⟨G, B, ρ, Q, o, hm, k⟩
  exact k v H d (.refl _ _) o.wld (r _) hm
theorem se_int {i : Int} {j} : SE X aw (.Constant (.int i) j pos) (eC (.int i)) := se_c pe_int fun _ => .int _
theorem se_bl {i : Bool} {j} : SE X aw (.Constant (.bool i) j pos) (eC (.bool i)) := se_c pe_bl fun _ => .bl _
theorem se_non {j} : SE X aw (.Constant .none j pos) (eC .none) := se_c pe_non fun _ => .non
theorem se_str {i : Str} {j} : SE X aw (.Constant (.str i) j pos) (eC (.str i)) := se_c pe_str fun _ => .str _

/-- what an operation makes of two data -/
def eOp (f : D → D → M D) (m n : En → M D) : En → M D := fun ρ Q => m ρ fun x => n ρ fun y => f x y Q
/-- an operator's reading serves a plain one -/
def OpOk (K : PySem.W.Frag) (aw : Option Addr) (r : R2) (f : D → D → M D) : Prop := ∀ (H : Hp) (B : List Addr) (x y : V) (d e : D) (Q : D → Prop) (R : VK), World aw (cut H B) → (∀ p ∈ B, ∃ xs, H p = some (.lst xs)) → Rp K aw (cut H B) x d → Rp K aw (cut H B) y e → f d e Q →
  (∀ v H' z, Ext aw H H' → World aw (cut H' B) → Rp K aw (cut H' B) v z → Q z → R v H') → r x y H R
theorem op_reads {K : PySem.W.Frag} {r : R2} {f : D → D → M D} (h : OpOk K aw r f) : ∀ σ H R, tM K aw (eOp f m n) σ H R → tOp r (tM K aw m) (tM K aw n) σ H R := fun σ H R => by
  rintro ⟨G, B, ρ, Q, o, hm, k⟩
  refine ⟨G, B, ρ, _, o, hm, fun x H1 d e1 w1 r1 q1 => ?_⟩
  have o1 := o.grow e1 w1
  refine ⟨G, B, ρ, _, o1, q1, fun y H2 e e2 w2 r2 q2 => ?_⟩
  have o2 := o1.grow e2 w2
  exact h H2 B x y d e Q R w2 o2.own (r1.ext w1.ne (cut_ext e2)) r2 q2 fun v H' z e3 w3 r3 q3 => k v H' z (e1.trans (e2.trans e3)) w3 r3 q3
theorem se_op {op : Operator} {r : R2} {f : D → D → M D} (ho : OpR X (binaryOp op) r) (h : OpOk X.K aw r f) (ha : SE X aw a m) (hb : SE X aw b n) : SE X aw (.BinOp a op b pos) (eOp f m n) := pe_to (pe_op ho ha hb) (op_reads h)
theorem se_cmp {op : CmpOp} {r : R2} {f : D → D → M D} (ho : OpR X (compareOp op) r) (h : OpOk X.K aw r f) (ha : SE X aw a m) (hb : SE X aw b n) (hm : behindInMarks op b = false) : SE X aw (.Compare a [op] [b] pos) (eOp f m n) := pe_to (pe_cmpR ho ha hb hm) (op_reads h)
end


/-! ### plain operations -/
def fI (C : Int → Int → Prop) (g : Int → Int → D) : D → D → M D := fun x y Q => match x, y with
  | .int i, .int j => C i j ∧ Q (g i j)
  | _, _ => False
def fAdd := fI (fun _ _ => True) fun i j => .int (i + j)
def fSub := fI (fun _ _ => True) fun i j => .int (i - j)
def fMul := fI CMulW fun i j => .int (i * j)
def CDv (_ j : Int) : Prop := j ≠ 0 ∧ j.natAbs.log2 < 9000
def fDiv := fI CDv fun i j => .int (i.fdiv j)
def fMod := fI (fun _ j => j ≠ 0) fun i j => .int (i.fmod j)
def fLt := fI (fun _ _ => True) fun i j => .bool (decide (i < j))
def fLe := fI (fun _ _ => True) fun i j => .bool (decide (i ≤ j))
def fGt := fI (fun _ _ => True) fun i j => .bool (decide (j < i))
def fGe := fI (fun _ _ => True) fun i j => .bool (decide (j ≤ i))
def fPow := fI CPow fun i j => .int (i ^ j.toNat)
def okD (d : D) : Prop := flatD d = true ∧ SeqAt.shaped d = true
def fEq : D → D → M D := fun x y Q => okD x ∧ okD y ∧ Q (.bool (PyData.eqv x y))
def fNe : D → D → M D := fun x y Q => okD x ∧ okD y ∧ Q (.bool (!PyData.eqv x y))
def fIn : D → D → M D := fun x y Q => match y with
  | .list ds => okD x ∧ okD (.list ds) ∧ Q (.bool (ds.any fun z => PyData.eqv z x))
  | _ => False
def fNotIn : D → D → M D := fun x y Q => match y with
  | .list ds => okD x ∧ okD (.list ds) ∧ Q (.bool (!ds.any fun z => PyData.eqv z x))
  | _ => False
def fIsN : D → D → M D := fun x y Q => y = .none ∧ match x with
  | .none => Q (.bool true)
  | .dict _ => False
  | _ => Q (.bool false)
def fNotN : D → D → M D := fun x y Q => y = .none ∧ match x with
  | .none => Q (.bool false)
  | .dict _ => False
  | _ => Q (.bool true)
def fIsB : D → D → M D := fun x y Q => match x, y with
  | .bool a, .bool b => Q (.bool (decide (a = b)))
  | _, _ => False
def fNotB : D → D → M D := fun x y Q => match x, y with
  | .bool a, .bool b => Q (.bool (!decide (a = b)))
  | _, _ => False
def fCatL : D → D → M D := fun x y Q => match x, y with
  | .list a, .list b => a.length + b.length ≤ 100000 ∧ Q (.list (a ++ b))
  | _, _ => False
def fCatS : D → D → M D := fun x y Q => match x, y with
  | .str a, .str b => a.length + b.length ≤ 100000 ∧ Q (.str (a ++ b))
  | _, _ => False
/-- an item, from the end too -/
def fIx : D → D → M D := fun x y Q => match x, y with
  | .list ds, .int i => match atI ds i with
    | some d => Q d
    | none => False
  | .tuple ds, .int i => match atI ds i with
    | some d => Q d
    | none => False
  | .dict [(.none, .list ds)], .int i => match atI ds i with
    | some d => Q d
    | none => False
  | _, _ => False

theorem le_line {n : Nat} (h : n ≤ 100000) : n ≤ sizeLine := Nat.le_trans h (by decide)
theorem lt_line {n : Nat} (h : n < 100000) : n < sizeLine := Nat.lt_of_lt_of_le h (by decide)

section
variable {X : Cx} {K : PySem.W.Frag} {aw : Option Addr}
theorem ok_rI {C C' : Int → Int → Prop} {g : Int → Int → V} {g' : Int → Int → D} (hc : ∀ i j, C' i j → C i j) (hg : ∀ i j, Rp K aw (fun _ => none) (g i j) (g' i j)) (hf : ∀ i j H, Rp K aw H (g i j) (g' i j)) : OpOk K aw (rI C g) (fI C' g') := by
  intro H B x y d e Q R w _ rx ry q k
  unfold fI at q
  split at q
  · rename_i i j
    cases rx
    cases ry
    exact ⟨i, j, rfl, rfl, hc i j q.1, k _ H _ (.refl _ _) w (hf i j _) q.2⟩
  · cases q
theorem ok_rI0 {g : Int → Int → V} {g' : Int → Int → D} (hf : ∀ i j H, Rp K aw H (g i j) (g' i j)) : OpOk K aw (rI0 g) (fI (fun _ _ => True) g') := by
  intro H B x y d e Q R w _ rx ry q k
  unfold fI at q
  split at q
  · rename_i i j
    cases rx
    cases ry
    exact ⟨i, j, rfl, rfl, k _ H _ (.refl _ _) w (hf i j _) q.2⟩
  · cases q
theorem ok_add : OpOk K aw (rI0 fun i j => .int (i + j)) fAdd := ok_rI0 fun _ _ _ => .int _
theorem ok_sub : OpOk K aw (rI0 fun i j => .int (i - j)) fSub := ok_rI0 fun _ _ _ => .int _
theorem ok_mul : OpOk K aw (rI CMulW fun i j => .int (i * j)) fMul := ok_rI (fun _ _ h => h) (fun _ _ => .int _) fun _ _ _ => .int _
theorem op_divW : OpR X (binaryOp .FloorDiv) (rI CDv fun i j => .int (i.fdiv j)) := opI fun _ _ _ _ _ _ _ hc q => floordiv_int hc.1 q (.inl (PyProof.noPylong_of_log2 hc.2))
theorem ok_div : OpOk K aw (rI CDv fun i j => .int (i.fdiv j)) fDiv := ok_rI (fun _ _ h => h) (fun _ _ => .int _) fun _ _ _ => .int _
theorem ok_mod : OpOk K aw (rI (fun _ j => j ≠ 0) fun i j => .int (i.fmod j)) fMod := ok_rI (fun _ _ h => h) (fun _ _ => .int _) fun _ _ _ => .int _
theorem ok_pow : OpOk K aw (rI CPow fun i j => .int (i ^ j.toNat)) fPow := ok_rI (fun _ _ h => h) (fun _ _ => .int _) fun _ _ _ => .int _
theorem ok_lt : OpOk K aw (rI0 fun i j => .bl (decide (i < j))) fLt := ok_rI0 fun _ _ _ => .bl _
theorem ok_le : OpOk K aw (rI0 fun i j => .bl (decide (i ≤ j))) fLe := ok_rI0 fun _ _ _ => .bl _
theorem ok_gt : OpOk K aw (rI0 fun i j => .bl (decide (j < i))) fGt := ok_rI0 fun _ _ _ => .bl _
theorem ok_ge : OpOk K aw (rI0 fun i j => .bl (decide (j ≤ i))) fGe := ok_rI0 fun _ _ _ => .bl _
theorem ok_eq : OpOk K aw (rEqD K) fEq := by
  intro H B x y d e Q R w _ rx ry q k
  exact ⟨d, e, dp_less (rx.dp q.1.1), dp_less (ry.dp q.2.1.1), q.1.2, q.2.1.2, k _ H _ (.refl _ _) w (.bl _) q.2.2⟩
theorem ok_ne : OpOk K aw (rNeD K) fNe := by
  intro H B x y d e Q R w _ rx ry q k
  exact ⟨d, e, dp_less (rx.dp q.1.1), dp_less (ry.dp q.2.1.1), q.1.2, q.2.1.2, k _ H _ (.refl _ _) w (.bl _) q.2.2⟩
theorem ok_in : OpOk K aw (rInD K) fIn := by
  intro H B x y d e Q R w _ rx ry q k
  unfold fIn at q
  split at q
  · rename_i ds
    exact ⟨d, ds, dp_less (rx.dp q.1.1), dp_less (ry.dp q.2.1.1), q.1.2, q.2.1.2, k _ H _ (.refl _ _) w (.bl _) q.2.2⟩
  · cases q
theorem ok_notIn : OpOk K aw (rNotInD K) fNotIn := by
  intro H B x y d e Q R w _ rx ry q k
  unfold fNotIn at q
  split at q
  · rename_i ds
    exact ⟨d, ds, dp_less (rx.dp q.1.1), dp_less (ry.dp q.2.1.1), q.1.2, q.2.1.2, k _ H _ (.refl _ _) w (.bl _) q.2.2⟩
  · cases q
theorem ok_isN : OpOk K aw (fun x y H Q => y = .non ∧ Q (.bl (decide (x = .non))) H) fIsN := by
  intro H B x y d e Q R w _ rx ry q k
  obtain ⟨rfl, q⟩ := q
  cases ry
  refine ⟨rfl, ?_⟩
  have fin : ∀ b : Bool, Q (.bool b) → R (.bl b) H := fun b h => k _ H _ (.refl _ _) w (.bl _) h
  cases rx <;> first | exact fin _ q | exact q.elim
theorem ok_notN : OpOk K aw (fun x y H Q => y = .non ∧ Q (.bl (!decide (x = .non))) H) fNotN := by
  intro H B x y d e Q R w _ rx ry q k
  obtain ⟨rfl, q⟩ := q
  cases ry
  refine ⟨rfl, ?_⟩
  have fin : ∀ b : Bool, Q (.bool b) → R (.bl b) H := fun b h => k _ H _ (.refl _ _) w (.bl _) h
  cases rx <;> first | exact fin _ q | exact q.elim
theorem ok_isB : OpOk K aw rIsB fIsB := by
  intro H B x y d e Q R w _ rx ry q k
  unfold fIsB at q
  split at q
  · cases rx
    cases ry
    exact ⟨_, _, rfl, rfl, k _ H _ (.refl _ _) w (.bl _) q⟩
  · cases q
theorem ok_notB : OpOk K aw rNotB fNotB := by
  intro H B x y d e Q R w _ rx ry q k
  unfold fNotB at q
  split at q
  · cases rx
    cases ry
    exact ⟨_, _, rfl, rfl, k _ H _ (.refl _ _) w (.bl _) q⟩
  · cases q
theorem new_cut {H : Hp} {B : List Addr} {p : Addr} {o : HO} (hp : H p = none) (hB : ∀ q ∈ B, ∃ xs, H q = some (.lst xs)) : cut (upd H p o) B p = some o := cut_of upd_same fun z => by
  obtain ⟨xs, h⟩ := hB p z
  rw [hp] at h; cases h
/-- behind a new object -/
theorem World.fresh {H : Hp} {B : List Addr} {p : Addr} {o : HO} (w : World aw (cut H B)) (hp : H p = none) : World aw (cut (upd H p o) B) := by
  refine w.ext (cut_ext (.new hp)) ?_
  intro a ea
  obtain ⟨kvs, h⟩ := w.ne a ea
  obtain ⟨h1, h2⟩ := cut_some h
  unfold cut
  rw [if_neg h2, if_neg h2, upd_ne (ne_of_none h1 hp)]
theorem rp_new {H : Hp} {B : List Addr} {p : Addr} {o : HO} {v : V} {d : D} (w : World aw (cut H B)) (hp : H p = none) (r : Rp K aw (cut H B) v d) : Rp K aw (cut (upd H p o) B) v d := r.ext w.ne (cut_ext (.new hp))
theorem rpA_new {H : Hp} {B : List Addr} {p : Addr} {o : HO} {v : List V} {d : List D} (w : World aw (cut H B)) (hp : H p = none) (r : RpA K aw (cut H B) v d) : RpA K aw (cut (upd H p o) B) v d := r.ext w.ne (cut_ext (.new hp))
theorem ok_catL : OpOk K aw rCat fCatL := by
  intro H B x y d e Q R w hB rx ry q k
  unfold fCatL at q
  split at q
  · rename_i a b
    cases rx with
    | lst h1 r1 =>
    cases ry with
    | lst h2 r2 =>
    refine ⟨_, _, _, _, rfl, rfl, (cut_some h1).1, (cut_some h2).1, by rw [r1.length, r2.length]; exact le_line q.1, fun p hp => ?_⟩
    exact k _ _ _ (.new hp) (w.fresh hp) (.lst (new_cut hp hB) (rpA_new w hp (r1.app r2))) q.2
  · cases q
theorem ok_catS : OpOk K aw (fun x y H Q => ∃ i j, x = .str i ∧ y = .str j ∧ i.length + j.length ≤ sizeLine ∧ Q (.str (i ++ j)) H) fCatS := by
  intro H B x y d e Q R w hB rx ry q k
  unfold fCatS at q
  split at q
  · cases rx
    cases ry
    exact ⟨_, _, rfl, rfl, le_line q.1, k _ H _ (.refl _ _) w (.str _) q.2⟩
  · cases q
theorem RpA.atI {H : Hp} {xs : List V} {ds : List D} {i : Int} {d : D} (r : RpA K aw H xs ds) (h : L2.atI ds i = some d) : ∃ v, L2.atI xs i = some v ∧ Rp K aw H v d := by
  unfold L2.atI at h ⊢
  rw [r.length]
  cases e : ixN ds.length i with
  | none => rw [e] at h; cases h
  | some j =>
    rw [e] at h
    obtain ⟨v, e1, e2⟩ := r.get (show ds[j]? = some d from h)
    exact ⟨v, e1, e2⟩
theorem ScL.less {H : Hp} {B : List Addr} {a : Addr} {xs : List V} (h : ScL K (cut H B) a xs) : ScL K H a xs := by
  rcases h with ⟨o, h⟩ | h
  · exact .inl ⟨o, (cut_some h).1⟩
  · exact .inr h
theorem rpA_ints {H : Hp} : ∀ ns : List Int, RpA K aw H (ns.map V.int) (ns.map PyData.int)
  | [] => .nil
  | n :: ns => .cons (.int n) (rpA_ints ns)
theorem ok_ix : OpOk K aw (rIx K) fIx := by
  intro H B x y d e Q R w hB rx ry q k
  unfold fIx at q
  split at q
  · split at q
    · rename_i d' hd
      cases rx with
      | lst h1 r1 =>
      cases ry
      obtain ⟨v, e1, e2⟩ := r1.atI hd
      exact .inl ⟨_, _, _, v, rfl, rfl, .inl (.inl (cut_some h1).1), e1, k _ H _ (.refl _ _) w e2 q⟩
    · cases q
  · split at q
    · rename_i d' hd
      cases rx with
      | tup h1 r1 =>
      cases ry
      obtain ⟨v, e1, e2⟩ := r1.atI hd
      exact .inr (.inl ⟨_, _, _, v, rfl, rfl, sqT_less h1, e1, k _ H _ (.refl _ _) w e2 q⟩)
    · cases q
  · split at q
    · rename_i d' hd
      cases rx with
      | scr h1 =>
      cases ry
      obtain ⟨v, e1, e2⟩ := (rpA_ints _).atI hd
      exact .inl ⟨_, _, _, v, rfl, rfl, (h1.less).sq, e1, k _ H _ (.refl _ _) w e2 q⟩
    · cases q
  · cases q
end

/-! ### short forms for derivations -/
section
variable {X : Cx} {aw : Option Addr} {a b c : Expr} {m n l : En → M D} {pos : Pos}
theorem se_add (ha : SE X aw a m) (hb : SE X aw b n) : SE X aw (.BinOp a .Add b pos) (eOp fAdd m n) := se_op op_add ok_add ha hb
theorem se_sub (ha : SE X aw a m) (hb : SE X aw b n) : SE X aw (.BinOp a .Sub b pos) (eOp fSub m n) := se_op op_sub ok_sub ha hb
theorem se_mul (ha : SE X aw a m) (hb : SE X aw b n) : SE X aw (.BinOp a .Mult b pos) (eOp fMul m n) := se_op op_mulW ok_mul ha hb
theorem se_div (ha : SE X aw a m) (hb : SE X aw b n) : SE X aw (.BinOp a .FloorDiv b pos) (eOp fDiv m n) := se_op op_divW ok_div ha hb
theorem se_mod (ha : SE X aw a m) (hb : SE X aw b n) : SE X aw (.BinOp a .Mod b pos) (eOp fMod m n) := se_op op_modN ok_mod ha hb
theorem se_pow (ha : SE X aw a m) (hb : SE X aw b n) : SE X aw (.BinOp a .Pow b pos) (eOp fPow m n) := se_op op_pow ok_pow ha hb
theorem se_catL (ha : SE X aw a m) (hb : SE X aw b n) : SE X aw (.BinOp a .Add b pos) (eOp fCatL m n) := se_op op_cat ok_catL ha hb
theorem se_catS (ha : SE X aw a m) (hb : SE X aw b n) : SE X aw (.BinOp a .Add b pos) (eOp fCatS m n) := se_op op_add_str ok_catS ha hb
theorem se_lt (ha : SE X aw a m) (hb : SE X aw b n) : SE X aw (.Compare a [.Lt] [b] pos) (eOp fLt m n) := se_cmp op_lt ok_lt ha hb (nobehind b (by decide) (by decide))
theorem se_le (ha : SE X aw a m) (hb : SE X aw b n) : SE X aw (.Compare a [.LtE] [b] pos) (eOp fLe m n) := se_cmp op_le ok_le ha hb (nobehind b (by decide) (by decide))
theorem se_gt (ha : SE X aw a m) (hb : SE X aw b n) : SE X aw (.Compare a [.Gt] [b] pos) (eOp fGt m n) := se_cmp op_gt ok_gt ha hb (nobehind b (by decide) (by decide))
theorem se_ge (ha : SE X aw a m) (hb : SE X aw b n) : SE X aw (.Compare a [.GtE] [b] pos) (eOp fGe m n) := se_cmp op_ge ok_ge ha hb (nobehind b (by decide) (by decide))
theorem se_isN (ha : SE X aw a m) (hb : SE X aw b n) : SE X aw (.Compare a [.Is] [b] pos) (eOp fIsN m n) := se_cmp op_isN ok_isN ha hb (nobehind b (by decide) (by decide))
theorem se_notN (ha : SE X aw a m) (hb : SE X aw b n) : SE X aw (.Compare a [.IsNot] [b] pos) (eOp fNotN m n) := se_cmp op_notN ok_notN ha hb (nobehind b (by decide) (by decide))
theorem se_isB (ha : SE X aw a m) (hb : SE X aw b n) : SE X aw (.Compare a [.Is] [b] pos) (eOp fIsB m n) := se_cmp op_isBl ok_isB ha hb (nobehind b (by decide) (by decide))
theorem se_notB (ha : SE X aw a m) (hb : SE X aw b n) : SE X aw (.Compare a [.IsNot] [b] pos) (eOp fNotB m n) := se_cmp op_notBl ok_notB ha hb (nobehind b (by decide) (by decide))
theorem room64 {k : Nat} {A : Around} (r : Room k A) : A.units + 64 < cLine := by have := r.un; omega
theorem room65 {k : Nat} {A : Around} (r : Room k A) : A.units + 65 < cLine := by have := r.un; omega
theorem se_eq {k : Nat} (hr : Room k X.A) (ha : SE X aw a m) (hb : SE X aw b n) : SE X aw (.Compare a [.Eq] [b] pos) (eOp fEq m n) := se_cmp (op_eqD (room64 hr)) ok_eq ha hb (nobehind b (by decide) (by decide))
theorem se_ne {k : Nat} (hr : Room k X.A) (ha : SE X aw a m) (hb : SE X aw b n) : SE X aw (.Compare a [.NotEq] [b] pos) (eOp fNe m n) := se_cmp (op_neD (room64 hr)) ok_ne ha hb (nobehind b (by decide) (by decide))
end


/-! ### tests -/
def eT (m : En → M D) : En → M Bool := fun ρ Q => m ρ fun d => match d with
  | .bool b => Q b
  | _ => False
def mAnd (t u : En → M Bool) : En → M Bool := fun ρ Q => t ρ fun b => if b = true then u ρ Q else Q false
def mOr (t u : En → M Bool) : En → M Bool := fun ρ Q => t ρ fun b => if b = true then Q true else u ρ Q
def mNot (t : En → M Bool) : En → M Bool := fun ρ Q => t ρ fun b => Q (!b)
def eAnd (m n : En → M D) : En → M D := fun ρ Q => m ρ fun d => match d with
  | .bool b => if b = true then n ρ Q else Q (.bool false)
  | _ => False
def eOr (m n : En → M D) : En → M D := fun ρ Q => m ρ fun d => match d with
  | .bool b => if b = true then Q (.bool true) else n ρ Q
  | _ => False
def eNot (m : En → M D) : En → M D := fun ρ Q => m ρ fun d => match d with
  | .bool b => Q (.bool (!b))
  | _ => False
def eIf (t : En → M Bool) (m n : En → M D) : En → M D := fun ρ Q => t ρ fun b => if b = true then m ρ Q else n ρ Q
section
variable {X : Cx} {aw : Option Addr} {a b c : Expr} {m n l : En → M D} {t u : En → M Bool} {pos : Pos} {rest : List Expr}
theorem st_of {te : TE} (hi : ∀ σ H R, tM X.K aw m σ H R → te σ H R) (h : PT X a (tB te)) : ST X aw a (eT m) := pt_to h fun σ H R => by
  rintro ⟨G, B, ρ, Q, o, hm, k⟩
  refine hi σ H _ ⟨G, B, ρ, _, o, hm, fun v H' d e w r q => ?_⟩
  cases d with
  | bool bb => cases r; exact ⟨bb, rfl, k H' bb e w q⟩
  | _ => cases q
theorem st_val (h : SE X aw a m) (he : ∀ whole, isTrue a X.env whole = (do let v ← whole; standAt a.pos; holding [v] (truthy v)) := by intro _; rfl) : ST X aw a (eT m) := st_of (fun _ _ _ h => h) (pt_val h he)
theorem st_op {op : CmpOp} {r : R2} {f : D → D → M D} (ho : OpR X (compareOp op) r) (h : OpOk X.K aw r f) (ha : SE X aw a m) (hb : SE X aw b n) (hm : behindInMarks op b = false) : ST X aw (.Compare a [op] [b] pos) (eT (eOp f m n)) :=
  st_of (op_reads h) (pt_cmpR ho ha hb hm)
theorem st_lt (ha : SE X aw a m) (hb : SE X aw b n) : ST X aw (.Compare a [.Lt] [b] pos) (eT (eOp fLt m n)) := st_op op_lt ok_lt ha hb (nobehind b (by decide) (by decide))
theorem st_le (ha : SE X aw a m) (hb : SE X aw b n) : ST X aw (.Compare a [.LtE] [b] pos) (eT (eOp fLe m n)) := st_op op_le ok_le ha hb (nobehind b (by decide) (by decide))
theorem st_gt (ha : SE X aw a m) (hb : SE X aw b n) : ST X aw (.Compare a [.Gt] [b] pos) (eT (eOp fGt m n)) := st_op op_gt ok_gt ha hb (nobehind b (by decide) (by decide))
theorem st_ge (ha : SE X aw a m) (hb : SE X aw b n) : ST X aw (.Compare a [.GtE] [b] pos) (eT (eOp fGe m n)) := st_op op_ge ok_ge ha hb (nobehind b (by decide) (by decide))
theorem st_isN (ha : SE X aw a m) (hb : SE X aw b n) : ST X aw (.Compare a [.Is] [b] pos) (eT (eOp fIsN m n)) := st_op op_isN ok_isN ha hb (nobehind b (by decide) (by decide))
theorem st_notN (ha : SE X aw a m) (hb : SE X aw b n) : ST X aw (.Compare a [.IsNot] [b] pos) (eT (eOp fNotN m n)) := st_op op_notN ok_notN ha hb (nobehind b (by decide) (by decide))
theorem st_isB (ha : SE X aw a m) (hb : SE X aw b n) : ST X aw (.Compare a [.Is] [b] pos) (eT (eOp fIsB m n)) := st_op op_isBl ok_isB ha hb (nobehind b (by decide) (by decide))
theorem st_notB (ha : SE X aw a m) (hb : SE X aw b n) : ST X aw (.Compare a [.IsNot] [b] pos) (eT (eOp fNotB m n)) := st_op op_notBl ok_notB ha hb (nobehind b (by decide) (by decide))
theorem st_eq {k : Nat} (hr : Room k X.A) (ha : SE X aw a m) (hb : SE X aw b n) : ST X aw (.Compare a [.Eq] [b] pos) (eT (eOp fEq m n)) := st_op (op_eqD (room64 hr)) ok_eq ha hb (nobehind b (by decide) (by decide))
theorem st_ne {k : Nat} (hr : Room k X.A) (ha : SE X aw a m) (hb : SE X aw b n) : ST X aw (.Compare a [.NotEq] [b] pos) (eT (eOp fNe m n)) := st_op (op_neD (room64 hr)) ok_ne ha hb (nobehind b (by decide) (by decide))
theorem se_in {k : Nat} (hr : Room k X.A) (ha : SE X aw a m) (hb : SE X aw b n) (hm : behindInMarks .In b = false := by with_unfolding_all rfl) : SE X aw (.Compare a [.In] [b] pos) (eOp fIn m n) := se_cmp (op_inD (room65 hr)) ok_in ha hb hm
theorem se_notIn {k : Nat} (hr : Room k X.A) (ha : SE X aw a m) (hb : SE X aw b n) (hm : behindInMarks .NotIn b = false := by with_unfolding_all rfl) : SE X aw (.Compare a [.NotIn] [b] pos) (eOp fNotIn m n) := se_cmp (op_notInD (room65 hr)) ok_notIn ha hb hm
theorem st_in {k : Nat} (hr : Room k X.A) (ha : SE X aw a m) (hb : SE X aw b n) (hm : behindInMarks .In b = false := by with_unfolding_all rfl) : ST X aw (.Compare a [.In] [b] pos) (eT (eOp fIn m n)) := st_op (op_inD (room65 hr)) ok_in ha hb hm
theorem st_notIn {k : Nat} (hr : Room k X.A) (ha : SE X aw a m) (hb : SE X aw b n) (hm : behindInMarks .NotIn b = false := by with_unfolding_all rfl) : ST X aw (.Compare a [.NotIn] [b] pos) (eT (eOp fNotIn m n)) := st_op (op_notInD (room65 hr)) ok_notIn ha hb hm
theorem and_reads : ∀ σ H R, tT X.K aw (mAnd t u) σ H R → tAnd (tT X.K aw t) (tT X.K aw u) σ H R := fun σ H R => by
  rintro ⟨G, B, ρ, Q, o, hm, k⟩
  refine ⟨G, B, ρ, _, o, hm, fun H1 bb e1 w1 q1 => ?_⟩
  cases bb with
  | true => exact ⟨G, B, ρ, Q, o.grow e1 w1, q1, fun H' b e w q => k H' b (e1.trans e) w q⟩
  | false => exact k H1 false e1 w1 q1
theorem or_reads : ∀ σ H R, tT X.K aw (mOr t u) σ H R → tOr (tT X.K aw t) (tT X.K aw u) σ H R := fun σ H R => by
  rintro ⟨G, B, ρ, Q, o, hm, k⟩
  refine ⟨G, B, ρ, _, o, hm, fun H1 bb e1 w1 q1 => ?_⟩
  cases bb with
  | false => exact ⟨G, B, ρ, Q, o.grow e1 w1, q1, fun H' b e w q => k H' b (e1.trans e) w q⟩
  | true => exact k H1 true e1 w1 q1
/-- a test made of and, or -/
abbrev SW (X : Cx) (aw : Option Addr) (e : Expr) (m : En → M Bool) : Prop := PW X e (tT X.K aw m)
theorem sw_and1 (ha : ST X aw a t) : SW X aw (.BoolOp .And [a] pos) t := pw_and1 ha
theorem sw_or1 (ha : ST X aw a t) : SW X aw (.BoolOp .Or [a] pos) t := pw_or1 ha
theorem sw_and (ha : ST X aw a t) (hb : SW X aw (.BoolOp .And (b :: rest) pos) u) : SW X aw (.BoolOp .And (a :: b :: rest) pos) (mAnd t u) := pw_to (pw_and ha hb) and_reads
theorem sw_or (ha : ST X aw a t) (hb : SW X aw (.BoolOp .Or (b :: rest) pos) u) : SW X aw (.BoolOp .Or (a :: b :: rest) pos) (mOr t u) := pw_to (pw_or ha hb) or_reads
theorem st_w (h : SW X aw a t) : ST X aw a t := h.pt
theorem st_not (h : ST X aw a t) : ST X aw (.UnaryOp .Not a pos) (mNot t) := pt_to (pt_not h) fun σ H R => by
  rintro ⟨G, B, ρ, Q, o, hm, k⟩
  exact ⟨G, B, ρ, _, o, hm, fun H1 bb e1 w1 q1 => k H1 (!bb) e1 w1 q1⟩
theorem se_one {op} (h : SE X aw a m) : SE X aw (.BoolOp op [a] pos) m := pe_one h
theorem se_and (ha : SE X aw a m) (hb : SE X aw (.BoolOp .And (b :: rest) pos) n) : SE X aw (.BoolOp .And (a :: b :: rest) pos) (eAnd m n) := pe_to (pe_and ha hb) fun σ H R => by
  rintro ⟨G, B, ρ, Q, o, hm, k⟩
  refine ⟨G, B, ρ, _, o, hm, fun v H1 d e1 w1 r1 q1 => ?_⟩
  cases d with
  | bool bb =>
    cases r1
    refine ⟨bb, rfl, ?_⟩
    cases bb with
    | true => exact ⟨G, B, ρ, Q, o.grow e1 w1, q1, fun v H' d e w r q => k v H' d (e1.trans e) w r q⟩
    | false => exact k _ H1 _ e1 w1 (.bl _) q1
  | _ => cases q1
theorem se_or (ha : SE X aw a m) (hb : SE X aw (.BoolOp .Or (b :: rest) pos) n) : SE X aw (.BoolOp .Or (a :: b :: rest) pos) (eOr m n) := pe_to (pe_or ha hb) fun σ H R => by
  rintro ⟨G, B, ρ, Q, o, hm, k⟩
  refine ⟨G, B, ρ, _, o, hm, fun v H1 d e1 w1 r1 q1 => ?_⟩
  cases d with
  | bool bb =>
    cases r1
    refine ⟨bb, rfl, ?_⟩
    cases bb with
    | false => exact ⟨G, B, ρ, Q, o.grow e1 w1, q1, fun v H' d e w r q => k v H' d (e1.trans e) w r q⟩
    | true => exact k _ H1 _ e1 w1 (.bl _) q1
  | _ => cases q1
theorem se_not (ha : SE X aw a m) : SE X aw (.UnaryOp .Not a pos) (eNot m) := pe_to (pe_not ha) fun σ H R => by
  rintro ⟨G, B, ρ, Q, o, hm, k⟩
  refine ⟨G, B, ρ, _, o, hm, fun v H1 d e1 w1 r1 q1 => ?_⟩
  cases d with
  | bool bb => cases r1; exact ⟨bb, rfl, k _ H1 _ e1 w1 (.bl _) q1⟩
  | _ => cases q1
theorem se_if (hc : ST X aw c t) (ha : SE X aw a m) (hb : SE X aw b n) : SE X aw (.IfExp c a b pos) (eIf t m n) := pe_to (pe_ifExp hc ha hb) fun σ H R => by
  rintro ⟨G, B, ρ, Q, o, hm, k⟩
  refine ⟨G, B, ρ, _, o, hm, fun H1 bb e1 w1 q1 => ?_⟩
  cases bb with
  | true => exact ⟨G, B, ρ, Q, o.grow e1 w1, q1, fun v H' d e w r q => k v H' d (e1.trans e) w r q⟩
  | false => exact ⟨G, B, ρ, Q, o.grow e1 w1, q1, fun v H' d e w r q => k v H' d (e1.trans e) w r q⟩
end

/-! ### lists of arguments, displays, parts -/
def aNil : En → M (List D) := fun _ Q => Q []
def aCons (m : En → M D) (t : En → M (List D)) : En → M (List D) := fun ρ Q => m ρ fun d => t ρ fun ds => Q (d :: ds)
def eTup (t : En → M (List D)) : En → M D := fun ρ Q => t ρ fun ds => ds.length ≤ 100000 ∧ Q (.tuple ds)
def eLst (t : En → M (List D)) : En → M D := fun ρ Q => t ρ fun ds => ds.length ≤ 100000 ∧ Q (.list ds)
def eUn (f : D → M D) (m : En → M D) : En → M D := fun ρ Q => m ρ fun d => f d Q
def fNeg : D → M D := fun d Q => match d with
  | .int i => Q (.int (-i))
  | _ => False
section
variable {X : Cx} {aw : Option Addr} {a b c : Expr} {m n l : En → M D} {t u : En → M (List D)} {pos : Pos} {es : List Expr}
theorem sa_nil : SA X aw [] aNil := pa_to pa_nil fun σ H R => by
  rintro ⟨G, B, ρ, Q, o, hm, k⟩
  exact k [] H [] (.refl _ _) o.wld .nil hm
theorem sa_cons (ha : SE X aw a m) (hr : SA X aw es t) (hs : starEach (a :: es) X.env = (false, eval a X.env) :: starEach es X.env := by rfl) : SA X aw (a :: es) (aCons m t) := pa_to (pa_cons ha hr hs) fun σ H R => by
  rintro ⟨G, B, ρ, Q, o, hm, k⟩
  refine ⟨G, B, ρ, _, o, hm, fun v H1 d e1 w1 r1 q1 => ⟨G, B, ρ, _, o.grow e1 w1, q1, fun vs H2 ds e2 w2 r2 q2 => ?_⟩⟩
  exact k (v :: vs) H2 (d :: ds) (e1.trans e2) w2 (.cons (r1.ext w1.ne (cut_ext e2)) r2) q2
theorem se_tup {x1} (h : SA X aw es t) : SE X aw (.Tuple es x1 pos) (eTup t) := pe_to (pe_tup h) fun σ H R => by
  rintro ⟨G, B, ρ, Q, o, hm, k⟩
  refine ⟨G, B, ρ, _, o, hm, fun vs H1 ds e1 w1 r1 q1 => ⟨by rw [r1.length]; exact le_line q1.1, fun p hp => ?_⟩⟩
  have o1 := o.grow e1 w1
  exact k _ _ _ (e1.trans (.new hp)) (w1.fresh hp) (.tup (.inl (.inl (new_cut hp o1.own))) (rpA_new w1 hp r1)) q1.2
theorem se_lst (h : SA X aw es t) : SE X aw (.List es pos) (eLst t) := pe_to (pe_lst h) fun σ H R => by
  rintro ⟨G, B, ρ, Q, o, hm, k⟩
  refine ⟨G, B, ρ, _, o, hm, fun vs H1 ds e1 w1 r1 q1 => ⟨by rw [r1.length]; exact le_line q1.1, fun p hp => ?_⟩⟩
  have o1 := o.grow e1 w1
  exact k _ _ _ (e1.trans (.new hp)) (w1.fresh hp) (.lst (new_cut hp o1.own) (rpA_new w1 hp r1)) q1.2
/-- a one-place rule serves a plain one -/
def UnOk (K : PySem.W.Frag) (aw : Option Addr) (r : V → Hp → VK → Prop) (f : D → M D) : Prop := ∀ (H : Hp) (B : List Addr) (x : V) (d : D) (Q : D → Prop) (R : VK), World aw (cut H B) → (∀ p ∈ B, ∃ xs, H p = some (.lst xs)) → Rp K aw (cut H B) x d → f d Q →
  (∀ v H' z, Ext aw H H' → World aw (cut H' B) → Rp K aw (cut H' B) v z → Q z → R v H') → r x H R
theorem un_reads {K : PySem.W.Frag} {r : V → Hp → VK → Prop} {f : D → M D} (h : UnOk K aw r f) {σ : L2.St} {H : Hp} {R : VK} : tM K aw (eUn f m) σ H R → tUn r (tM K aw m) σ H R := by
  rintro ⟨G, B, ρ, Q, o, hm, k⟩
  refine ⟨G, B, ρ, _, o, hm, fun v H1 d e1 w1 r1 q1 => ?_⟩
  exact h H1 B v d Q R w1 (o.grow e1 w1).own r1 q1 fun v H' z e w r q => k v H' z (e1.trans e) w r q
theorem ok_neg {K : PySem.W.Frag} : UnOk K aw (rU fun i => .int (-i)) fNeg := by
  intro H B x d Q R w _ rx q k
  cases d with
  | int i => cases rx; exact ⟨i, rfl, k _ H _ (.refl _ _) w (.int _) q⟩
  | _ => cases q
theorem se_neg (ha : SE X aw a m) : SE X aw (.UnaryOp .USub a pos) (eUn fNeg m) := pe_to (pe_un un_neg ha) fun _ _ _ h => un_reads ok_neg h
theorem se_ix (ha : SE X aw a m) (hb : SE X aw b n) (hs : PlainIx b := by exact fun _ _ => rfl) : SE X aw (.Subscript a b pos) (eOp fIx m n) := pe_to (pe_ix ix_seq ha hb hs) (op_reads ok_ix)
end

/-! ### slices -/
abbrev En.O := En → M (Option Int)
def oNone : En → M (Option Int) := fun _ Q => Q none
def oSome (m : En → M D) : En → M (Option Int) := fun ρ Q => m ρ fun d => match d with
  | .int i => Q (some i)
  | _ => False
def cutD {α : Type} (xs : List α) (lo hi : Option Int) : List α := (xs.drop (HT.sIx xs.length 0 lo)).take (HT.sIx xs.length xs.length hi - HT.sIx xs.length 0 lo)
def fSl (d : D) (lo hi : Option Int) : M D := fun Q => match d with
  | .list ds => Q (.list (cutD ds lo hi))
  | .tuple ds => Q (.tuple (cutD ds lo hi))
  | .str z => z.length ≤ 100000 ∧ Q (.str (cutS z lo hi))
  | _ => False
def eSl (m : En → M D) (lo hi : En → M (Option Int)) : En → M D := fun ρ Q => m ρ fun d => lo ρ fun l => hi ρ fun h => fSl d l h Q
def tO (K : PySem.W.Frag) (aw : Option Addr) (m : En → M (Option Int)) : TO := fun σ H R => ∃ G B ρ Q, Ok K aw G B σ ρ H ∧ m ρ Q ∧ ∀ H' b, Ext aw H H' → World aw (cut H' B) → Q b → R b H'
theorem po_to {X : Cx} {e : Option Expr} {t t' : TO} (h : PO X e t) (i : ∀ σ H R, t' σ H R → t σ H R) : PO X e t' := ⟨fun pins s σ H Q I q => h.run pins s σ H Q I (i σ H Q q)⟩
section
variable {X : Cx} {aw : Option Addr} {a b c : Expr} {m n l : En → M D} {pos p2 : Pos} {lo hi : Option Expr} {ml mh : En → M (Option Int)}
theorem so_none : PO X none (tO X.K aw oNone) := po_to po_none fun σ H R => by
  rintro ⟨G, B, ρ, Q, o, hm, k⟩
  exact k H none (.refl _ _) o.wld hm
theorem so_some (h : SE X aw a m) : PO X (some a) (tO X.K aw (oSome m)) := po_to (po_some h) fun σ H R => by
  rintro ⟨G, B, ρ, Q, o, hm, k⟩
  refine ⟨G, B, ρ, _, o, hm, fun v H1 d e1 w1 r1 q1 => ?_⟩
  cases d with
  | int i => cases r1; exact ⟨i, rfl, k H1 _ e1 w1 q1⟩
  | _ => cases q1
theorem cutV_eq (xs : List V) (lo hi : Option Int) : cutV xs lo hi = cutD xs lo hi := rfl
theorem RpA.cut {K : PySem.W.Frag} {H : Hp} {xs : List V} {ds : List D} (r : RpA K aw H xs ds) (lo hi : Option Int) : RpA K aw H (cutD xs lo hi) (cutD ds lo hi) := by
  unfold cutD
  rw [r.length]
  exact (r.drop _).take _
theorem cut_all {α : Type} {xs : List α} {lo hi : Option Int} (h : HT.sIx xs.length 0 lo = 0 ∧ HT.sIx xs.length xs.length hi = xs.length) : cutD xs lo hi = xs := by
  unfold cutD
  rw [h.1, h.2, List.drop_zero, Nat.sub_zero, List.take_length]
theorem se_sl (he : SE X aw a m) (hl : PO X lo (tO X.K aw ml)) (hu : PO X hi (tO X.K aw mh)) : SE X aw (.Subscript a (.Slice lo hi none p2) pos) (eSl m ml mh) :=
  pe_to (pe_slice (sl_list.or (sl_tupA.or sl_str)) he hl hu) fun σ H R => by
    rintro ⟨G, B, ρ, Q, o, hm, k⟩
    refine ⟨G, B, ρ, _, o, hm, fun v H1 d e1 w1 r1 q1 => ⟨G, B, ρ, _, o.grow e1 w1, q1, fun H2 l e2 w2 q2 => ⟨G, B, ρ, _, (o.grow e1 w1).grow e2 w2, q2, fun H3 h e3 w3 q3 => ?_⟩⟩⟩
    have o3 := ((o.grow e1 w1).grow e2 w2).grow e3 w3
    have r3 : Rp X.K aw (Pl.cut H3 B) v d := (r1.ext w1.ne (cut_ext e2)).ext w2.ne (cut_ext e3)
    have e13 := e1.trans (e2.trans e3)
    cases d with
    | list ds =>
      cases r3 with
      | lst hh rr =>
      refine .inl ⟨_, _, rfl, .inl (.inl (cut_some hh).1), fun p hp => ?_⟩
      exact k _ _ _ (e13.trans (.new hp)) (w3.fresh hp) (.lst (new_cut hp o3.own) (rpA_new w3 hp (rr.cut l h))) q3
    | tuple ds =>
      cases r3 with
      | tup hh rr =>
      refine .inr (.inl ⟨_, _, rfl, sqT_less hh, fun hw => ?_, fun hw p hp => ?_⟩)
      · refine k _ _ _ e13 w3 (.tup hh ?_) q3
        have := rr.cut l h
        rw [cut_all hw] at this
        exact this
      · exact k _ _ _ (e13.trans (.new hp)) (w3.fresh hp) (.tup (.inl (.inl (new_cut hp o3.own))) (rpA_new w3 hp (rr.cut l h))) q3
    | str z =>
      cases r3
      exact .inr (.inr ⟨z, rfl, le_line q3.1, k _ _ _ e13 w3 (.str _) q3.2⟩)
    | _ => cases q3
end


/-! ### calls -/
def eCall (f : List D → M D) (t : En → M (List D)) : En → M D := fun ρ Q => t ρ fun ds => f ds Q
def ArgOk (K : PySem.W.Frag) (aw : Option Addr) (r : List V → Hp → VK → Prop) (f : List D → M D) : Prop := ∀ (H : Hp) (B : List Addr) (xs : List V) (ds : List D) (Q : D → Prop) (R : VK), World aw (cut H B) → (∀ p ∈ B, ∃ xs, H p = some (.lst xs)) → RpA K aw (cut H B) xs ds → f ds Q →
  (∀ v H' z, Ext aw H H' → World aw (cut H' B) → Rp K aw (cut H' B) v z → Q z → R v H') → r xs H R
theorem cr_or {X : Cx} {f : Value} {r r' : List V → Hp → VK → Prop} (h : CallR X f r) (h' : CallR X f r') : CallR X f (fun xs H Q => r xs H Q ∨ r' xs H Q) := by
  intro pins s σ H xs us Q I rv q
  rcases q with q | q
  · exact h pins s σ H xs us Q I rv q
  · exact h' pins s σ H xs us Q I rv q
theorem arg_reads {K : PySem.W.Frag} {aw : Option Addr} {r : List V → Hp → VK → Prop} {f : List D → M D} {t : En → M (List D)} (h : ArgOk K aw r f) {σ : L2.St} {H : Hp} {R : VK} : tM K aw (eCall f t) σ H R → tCB r (tA K aw t) σ H R := by
  rintro ⟨G, B, ρ, Q, o, hm, k⟩
  refine ⟨G, B, ρ, _, o, hm, fun vs H1 ds e1 w1 r1 q1 => ?_⟩
  exact h H1 B vs ds Q R w1 (o.grow e1 w1).own r1 q1 fun v H' z e w r q => k v H' z (e1.trans e) w r q
section
variable {X : Cx} {aw : Option Addr} {x : Str} {p pos : Pos} {e : Expr} {es : List Expr} {t : En → M (List D)} {id T : String} {r : List V → Hp → VK → Prop} {f : List D → M D}
theorem se_callB (hc : CallR X (.builtin id) r) (hok : ArgOk X.K aw r f) (hv : bootBuiltins x = some (.builtin id)) (hn : x ≠ "__name__") (hdb : (x == ("__debug__" : Str)) = false) (hg : Gl X x) (hm : X.mg x = none) (ha : SA X aw (e :: es) t)
    (he : starEach (e :: es) X.env = (false, eval e X.env) :: starEach es X.env := by rfl) (hpl : (backTo pos (starEach es X.env)).any (·.1) = false := by rfl) : SE X aw (.Call (.Name x p) (e :: es) [] pos) (eCall f t) :=
  pe_to (pe_callB hc hg hm hv ha hn hdb he hpl) fun _ _ _ h => arg_reads hok h
theorem se_callTy (hc : CallR X (.type T) r) (hok : ArgOk X.K aw r f) (hv : bootBuiltins x = some (.type T)) (hn : x ≠ "__name__") (hdb : (x == ("__debug__" : Str)) = false) (hg : Gl X x) (hm : X.mg x = none) (ha : SA X aw (e :: es) t)
    (he : starEach (e :: es) X.env = (false, eval e X.env) :: starEach es X.env := by rfl) (hpl : (backTo pos (starEach es X.env)).any (·.1) = false := by rfl) : SE X aw (.Call (.Name x p) (e :: es) [] pos) (eCall f t) :=
  pe_to (pe_callTy hc hg hm hv ha hn hdb he hpl) fun _ _ _ h => arg_reads hok h
end
def fLen : List D → M D := fun ds Q => match ds with
  | [.list xs] => Q (.int xs.length)
  | [.tuple xs] => Q (.int xs.length)
  | [.str z] => z.length ≤ 100000 ∧ Q (.int z.length)
  | [.dict [(.none, .list xs)]] => Q (.int xs.length)
  | _ => False
def fAbs : List D → M D := fun ds Q => match ds with
  | [.int i] => Q (.int (if i < 0 then -i else i))
  | _ => False
def fInt : List D → M D := fun ds Q => match ds with
  | [.int i] => Q (.int i)
  | [.bool b] => Q (.int (if b then 1 else 0))
  | _ => False
def fStr : List D → M D := fun ds Q => match ds with
  | [.int i] => i.natAbs.log2 < 1920 ∧ Q (.str (toString i : String))
  | _ => False
def fTuple : List D → M D := fun ds Q => match ds with
  | [.list xs] => Q (.tuple xs)
  | [.tuple xs] => Q (.tuple xs)
  | _ => False
def fList : List D → M D := fun ds Q => match ds with
  | [.list xs] => Q (.list xs)
  | [.tuple xs] => Q (.list xs)
  | _ => False
def boolsOf : List D → Option (List Bool)
  | [] => some []
  | .bool b :: ds => (boolsOf ds).map (b :: ·)
  | _ => none
def fAll : List D → M D := fun ds Q => match ds with
  | [.list xs] => match boolsOf xs with
    | some bs => Q (.bool (bs.all id))
    | none => False
  | _ => False
/-- the name of a datum's type -/
def tyD : D → Option String
  | .none => some "NoneType"
  | .bool _ => some "bool"
  | .int _ => some "int"
  | .str _ => some "str"
  | .list _ => some "list"
  | .tuple _ => some "tuple"
  | .dict _ => none
def isD (a T : String) : Bool := a == T || (a == "bool" && T == "int")
def fIsi (T : String) : D → M D := fun d Q => match tyD d with
  | some a => Q (.bool (isD a T))
  | none => False
section
variable {X : Cx} {K : PySem.W.Frag} {aw : Option Addr}
theorem ok_len : ArgOk K aw (fun xs H Q => (∃ p ys, xs = [.ref p] ∧ (SqL K H p ys ∨ SqT K H p ys) ∧ Q (.int ys.length) H) ∨ ∃ z, xs = [.str z] ∧ z.length ≤ sizeLine ∧ Q (.int z.length) H) fLen := by
  intro H B xs ds Q R w hB r q k
  unfold fLen at q
  split at q
  · cases r with
    | cons r0 rr =>
    cases rr
    cases r0 with
    | lst h1 r1 =>
    exact .inl ⟨_, _, rfl, .inl (.inl (.inl (cut_some h1).1)), by rw [r1.length]; exact k _ H _ (.refl _ _) w (.int _) q⟩
  · cases r with
    | cons r0 rr =>
    cases rr
    cases r0 with
    | tup h1 r1 =>
    exact .inl ⟨_, _, rfl, .inr (sqT_less h1), by rw [r1.length]; exact k _ H _ (.refl _ _) w (.int _) q⟩
  · cases r with
    | cons r0 rr =>
    cases rr
    cases r0
    exact .inr ⟨_, rfl, le_line q.1, k _ H _ (.refl _ _) w (.int _) q.2⟩
  · cases r with
    | cons r0 rr =>
    cases rr
    cases r0 with
    | scr h1 =>
    rw [List.length_map] at q
    exact .inl ⟨_, _, rfl, .inl h1.less.sq, by rw [List.length_map]; exact k _ H _ (.refl _ _) w (.int _) q⟩
  · cases q
theorem ok_abs : ArgOk K aw (fun xs H Q => ∃ i, xs = [.int i] ∧ Q (.int (if i < 0 then -i else i)) H) fAbs := by
  intro H B xs ds Q R w hB r q k
  unfold fAbs at q
  split at q
  · cases r with
    | cons r0 rr =>
    cases rr
    cases r0
    exact ⟨_, rfl, k _ H _ (.refl _ _) w (.int _) q⟩
  · cases q
theorem ok_int : ArgOk K aw (fun xs H Q => (∃ i, xs = [.int i] ∧ Q (.int i) H) ∨ ∃ k, xs = [.bl k] ∧ Q (.int (if k then 1 else 0)) H) fInt := by
  intro H B xs ds Q R w hB r q k
  unfold fInt at q
  split at q
  · cases r with
    | cons r0 rr =>
    cases rr
    cases r0
    exact .inl ⟨_, rfl, k _ H _ (.refl _ _) w (.int _) q⟩
  · cases r with
    | cons r0 rr =>
    cases rr
    cases r0
    exact .inr ⟨_, rfl, k _ H _ (.refl _ _) w (.int _) q⟩
  · cases q
theorem ok_str : ArgOk K aw (fun xs H Q => ∃ i, xs = [.int i] ∧ i.natAbs.log2 < 1920 ∧ Q (.str (toString i)) H) fStr := by
  intro H B xs ds Q R w hB r q k
  unfold fStr at q
  split at q
  · cases r with
    | cons r0 rr =>
    cases rr
    cases r0
    exact ⟨_, rfl, q.1, k _ H _ (.refl _ _) w (.str _) q.2⟩
  · cases q
theorem ok_tuple : ArgOk K aw (fun xs H Q => ∃ p ys, xs = [.ref p] ∧ ((SqL K H p ys ∧ ∀ l, H l = none → Q (.ref l) (upd H l (.tup ys))) ∨ (SqT K H p ys ∧ Q (.ref p) H))) fTuple := by
  intro H B xs ds Q R w hB r q k
  unfold fTuple at q
  split at q
  · cases r with
    | cons r0 rr =>
    cases rr
    cases r0 with
    | lst h1 r1 =>
    exact ⟨_, _, rfl, .inl ⟨.inl (.inl (cut_some h1).1), fun l hl => k _ _ _ (.new hl) (w.fresh hl) (.tup (.inl (.inl (new_cut hl hB))) (rpA_new w hl r1)) q⟩⟩
  · cases r with
    | cons r0 rr =>
    cases rr
    cases r0 with
    | tup h1 r1 =>
    exact ⟨_, _, rfl, .inr ⟨sqT_less h1, k _ H _ (.refl _ _) w (.tup h1 r1) q⟩⟩
  · cases q
theorem ok_list : ArgOk K aw (fun xs H Q => ∃ p ys, xs = [.ref p] ∧ (SqL K H p ys ∨ SqT K H p ys) ∧ ∀ l, H l = none → Q (.ref l) (upd H l (.lst ys))) fList := by
  intro H B xs ds Q R w hB r q k
  unfold fList at q
  split at q
  · cases r with
    | cons r0 rr =>
    cases rr
    cases r0 with
    | lst h1 r1 =>
    exact ⟨_, _, rfl, .inl (.inl (.inl (cut_some h1).1)), fun l hl => k _ _ _ (.new hl) (w.fresh hl) (.lst (new_cut hl hB) (rpA_new w hl r1)) q⟩
  · cases r with
    | cons r0 rr =>
    cases rr
    cases r0 with
    | tup h1 r1 =>
    exact ⟨_, _, rfl, .inr (sqT_less h1), fun l hl => k _ _ _ (.new hl) (w.fresh hl) (.lst (new_cut hl hB) (rpA_new w hl r1)) q⟩
  · cases q
theorem bools_rp {H : Hp} : ∀ {ds : List D} {bs : List Bool} {xs : List V}, boolsOf ds = some bs → RpA K aw H xs ds → xs = bs.map V.bl
  | [], _, _, e, r => by cases r; cases e; rfl
  | .bool b :: ds, bs, _, e, r => by
    unfold boolsOf at e
    cases q : boolsOf ds with
    | none => rw [q] at e; cases e
    | some cs =>
      rw [q] at e
      cases e
      cases r with
      | cons r0 rr =>
      cases r0
      rw [bools_rp q rr]
      rfl
  | .none :: _, _, _, e, _ => by cases e
  | .int _ :: _, _, _, e, _ => by cases e
  | .str _ :: _, _, _, e, _ => by cases e
  | .list _ :: _, _, _, e, _ => by cases e
  | .tuple _ :: _, _, _, e, _ => by cases e
  | .dict _ :: _, _, _, e, _ => by cases e
theorem ok_all : ArgOk K aw (rAll K) fAll := by
  intro H B xs ds Q R w hB r q k
  unfold fAll at q
  split at q
  · split at q
    · rename_i bs hb
      cases r with
      | cons r0 rr =>
      cases rr
      cases r0 with
      | lst h1 r1 =>
      have e := bools_rp hb r1
      subst e
      exact ⟨_, bs, rfl, .inl (.inl (cut_some h1).1), k _ H _ (.refl _ _) w (.bl _) q⟩
    · cases q
  · cases q
variable {p pos : Pos} {e : Expr} {es : List Expr} {t : En → M (List D)} {m : En → M D}
theorem se_len (hg : Gl X "len") (hm : X.mg "len" = none) (ha : SA X aw (e :: es) t) (he : starEach (e :: es) X.env = (false, eval e X.env) :: starEach es X.env := by rfl) (hpl : (backTo pos (starEach es X.env)).any (·.1) = false := by rfl) : SE X aw (.Call (.Name "len" p) (e :: es) [] pos) (eCall fLen t) :=
  se_callB (cr_or call_len_seq call_len_str) ok_len PySem.boot_len (by decide) (by decide) hg hm ha he hpl
theorem se_abs (hg : Gl X "abs") (hm : X.mg "abs" = none) (ha : SA X aw (e :: es) t) (he : starEach (e :: es) X.env = (false, eval e X.env) :: starEach es X.env := by rfl) (hpl : (backTo pos (starEach es X.env)).any (·.1) = false := by rfl) : SE X aw (.Call (.Name "abs" p) (e :: es) [] pos) (eCall fAbs t) :=
  se_callB call_abs ok_abs (by decide +kernel) (by decide) (by decide) hg hm ha he hpl
theorem se_intc (hg : Gl X "int") (hm : X.mg "int" = none) (ha : SA X aw (e :: es) t) (he : starEach (e :: es) X.env = (false, eval e X.env) :: starEach es X.env := by rfl) (hpl : (backTo pos (starEach es X.env)).any (·.1) = false := by rfl) : SE X aw (.Call (.Name "int" p) (e :: es) [] pos) (eCall fInt t) :=
  se_callTy call_int1 ok_int (by decide +kernel) (by decide) (by decide) hg hm ha he hpl
theorem se_strc (hg : Gl X "str") (hm : X.mg "str" = none) (ha : SA X aw (e :: es) t) (he : starEach (e :: es) X.env = (false, eval e X.env) :: starEach es X.env := by rfl) (hpl : (backTo pos (starEach es X.env)).any (·.1) = false := by rfl) : SE X aw (.Call (.Name "str" p) (e :: es) [] pos) (eCall fStr t) :=
  se_callTy call_str_int ok_str (by decide +kernel) (by decide) (by decide) hg hm ha he hpl
theorem se_tuplec (hg : Gl X "tuple") (hm : X.mg "tuple" = none) (ha : SA X aw (e :: es) t) (he : starEach (e :: es) X.env = (false, eval e X.env) :: starEach es X.env := by rfl) (hpl : (backTo pos (starEach es X.env)).any (·.1) = false := by rfl) : SE X aw (.Call (.Name "tuple" p) (e :: es) [] pos) (eCall fTuple t) :=
  se_callTy call_tuple_of ok_tuple (by decide +kernel) (by decide) (by decide) hg hm ha he hpl
theorem se_listc (hg : Gl X "list") (hm : X.mg "list" = none) (ha : SA X aw (e :: es) t) (he : starEach (e :: es) X.env = (false, eval e X.env) :: starEach es X.env := by rfl) (hpl : (backTo pos (starEach es X.env)).any (·.1) = false := by rfl) : SE X aw (.Call (.Name "list" p) (e :: es) [] pos) (eCall fList t) :=
  se_callTy call_list_of ok_list (by decide +kernel) (by decide) (by decide) hg hm ha he hpl
theorem se_allc (hc : X.calm = true) (hg : Gl X "all") (hm : X.mg "all" = none) (ha : SA X aw (e :: es) t) (he : starEach (e :: es) X.env = (false, eval e X.env) :: starEach es X.env := by rfl) (hpl : (backTo pos (starEach es X.env)).any (·.1) = false := by rfl) : SE X aw (.Call (.Name "all" p) (e :: es) [] pos) (eCall fAll t) :=
  se_callB (cr_all hc) ok_all (by decide +kernel) (by decide) (by decide) hg hm ha he hpl
/-- isinstance(e, T) -/
theorem kit_isD (a T : String) (ha : a ∈ ["NoneType", "bool", "int", "str", "list", "tuple"]) (hT : T ∈ ["bool", "int", "str", "list", "tuple"]) : PySem.W.kitOne K (.type a) (.type T) = some (isD a T) := by
  simp only [List.mem_cons, List.not_mem_nil, or_false] at ha hT
  rcases ha with rfl | rfl | rfl | rfl | rfl | rfl <;> rcases hT with rfl | rfl | rfl | rfl | rfl <;> rfl
theorem tyX_of {H : Hp} {B : List Addr} {v : V} {d : D} {a : String} (r : Rp K aw (cut H B) v d) (e : tyD d = some a) : TyX K H v (.type a) ∧ a ∈ ["NoneType", "bool", "int", "str", "list", "tuple"] := by
  cases r with
  | non => cases e; exact ⟨.base .non, by decide⟩
  | bl b => cases e; exact ⟨.base (.bl b), by decide⟩
  | int b => cases e; exact ⟨.base (.int b), by decide⟩
  | str b => cases e; exact ⟨.base (.str b), by decide⟩
  | lst h _ => cases e; exact ⟨.base (.lst (cut_some h).1), by decide⟩
  | tup h _ =>
    cases e
    refine ⟨?_, by decide⟩
    rcases sqT_less h with (h | ⟨o, h⟩) | ⟨o, its, n, h1, h2, _⟩
    · exact .base (.tup h)
    · exact .fTuple h
    · exact .kTuple h1 h2
  | wld _ _ => cases e
  | scr _ => cases e
theorem se_isi {T : Str} {TT : String} {p2 : Pos} (hT : bootBuiltins T = some (.type TT)) (hTT : TT ∈ ["bool", "int", "str", "list", "tuple"]) (hgT : Gl X T) (hmT : X.mg T = none) (hg : Gl X "isinstance") (hm : X.mg "isinstance" = none) (ha : SE X aw e m) (hnT : T ≠ "__name__" := by decide) (hdT : (T == ("__debug__" : Str)) = false := by decide)
    (he : starEach [e, .Name T p2] X.env = (false, eval e X.env) :: starEach [.Name T p2] X.env := by rfl) (hpl : (backTo pos (starEach [.Name T p2] X.env)).any (·.1) = false := by rfl) : SE X aw (.Call (.Name "isinstance" p) [e, .Name T p2] [] pos) (eUn (fIsi TT) m) := by
  have hn : PE X (.Name T p2) (tC (.ty TT)) := pe_bltn hgT hmT hT rfl hnT hdT
  have hA : PA X [e, .Name T p2] (tCons (tM X.K aw m) (tCons (tC (.ty TT)) tNil)) := pa_cons ha (pa_cons hn pa_nil (by rfl)) he
  refine pe_to (pe_callB call_isi hg hm (by decide +kernel) hA (by decide) (by decide) he hpl) fun σ H R => ?_
  rintro ⟨G, B, ρ, Q, o, hm, k⟩
  refine ⟨G, B, ρ, _, o, hm, fun v H1 d e1 w1 r1 q1 => ?_⟩
  unfold fIsi at q1
  split at q1
  · rename_i a ea
    obtain ⟨ty, ma⟩ := tyX_of r1 ea
    exact ⟨v, .ty TT, _, _, isD a TT, rfl, .ty TT, ty, kit_isD a TT ma hTT, k _ H1 _ e1 w1 (.bl _) q1⟩
  · cases q1
end

/-! ### a def's promise -/
def spF (K : PySem.W.Frag) (n : Nat) (F : List D → M D) : Sp := fun vs H Q _ => ∃ aw B ds P, vs.length = n ∧ World aw (cut H B) ∧ (∀ p ∈ B, ∃ xs, H p = some (.lst xs)) ∧ RpA K aw (cut H B) vs ds ∧ F ds P ∧ ∀ v H' d, Ext aw H H' → World aw (cut H' B) → Rp K aw (cut H' B) v d → P d → Q v H'
structure Df (P : Program) (w : PySem.World) (K : PySem.W.Frag) (mg : Str → Option Value) (base : Heap) (x : Str) (n k : Nat) (F : List D → M D) : Prop where
  ex : ∃ f fd ps, ps.length = n ∧ mg x = some (.ref f) ∧ PySem.W.keepIn K (.ref f) = true ∧ Binds K fd ps [] ∧ FnOk P w K mg base CX0 k f fd ps (spF K n F)
theorem Df.mono {P : Program} {w : PySem.World} {K : PySem.W.Frag} {mg : Str → Option Value} {base : Heap} {x : Str} {n j k : Nat} {F : List D → M D} (h : Df P w K mg base x n j F) (l : j ≤ k) : Df P w K mg base x n k F := by
  obtain ⟨f, fd, ps, h0, h1, h2, h3, h4⟩ := h.ex
  exact ⟨f, fd, ps, h0, h1, h2, h3, h4.mono l⟩
/-- a call with so many arguments -/
def eCallN (n : Nat) (F : List D → M D) (t : En → M (List D)) : En → M D := fun ρ Q => t ρ fun ds => ds.length = n ∧ F ds Q
section
variable {X : Cx} {aw : Option Addr} {x : Str} {p pos : Pos} {e : Expr} {es : List Expr} {t : En → M (List D)} {F : List D → M D} {n k j : Nat}
theorem se_call (h : Df X.prog X.w X.K X.mg X.base x n j F) (hr : Room k X.A) (hjk : j ≤ k) (hg : Gl X x) (ha : SA X aw (e :: es) t)
    (hdb : (x == ("__debug__" : Str)) = false := by decide) (he : starEach (e :: es) X.env = (false, eval e X.env) :: starEach es X.env := by rfl) (hpl : (backTo pos (starEach es X.env)).any (·.1) = false := by rfl) : SE X aw (.Call (.Name x p) (e :: es) [] pos) (eCallN n F t) := by
  obtain ⟨f, fd, ps, h0, h1, h2, h3, h4⟩ := h.ex
  refine pe_to (pe_call h4 (hr.mono hjk) hg h1 h2 h3 .nil pass0 ha hdb he hpl) fun σ H R => ?_
  rintro ⟨G, B, ρ, Q, o, hm, q⟩
  refine ⟨G, B, ρ, _, o, hm, fun vs H1 ds e1 w1 r1 q1 => ?_⟩
  refine ⟨aw, B, ds, Q, by rw [List.append_nil, r1.length]; exact q1.1, w1, (o.grow e1 w1).own, by rw [List.append_nil]; exact r1, q1.2, fun v H' d e2 w2 r2 q2 => q v H' d (e1.trans e2) w2 r2 q2⟩
end


/-! ### targets -/
abbrev MG := D → En → (En → Prop) → Prop
abbrev MGs := List D → En → (En → Prop) → Prop
def mgName (i : Nat) : MG := fun d ρ Q => Q (ρ.set i (.va d))
def mgNil : MGs := fun ds ρ Q => ds = [] ∧ Q ρ
def mgCons (g : MG) (gs : MGs) : MGs := fun ds ρ Q => match ds with
  | d :: r => g d ρ fun ρ' => gs r ρ' Q
  | [] => False
def mgTup (n : Nat) (gs : MGs) : MG := fun d ρ Q => match d with
  | .tuple ds => ds.length = n ∧ gs ds ρ Q
  | _ => False
def mgLst (n : Nat) (gs : MGs) : MG := fun d ρ Q => match d with
  | .list ds => ds.length = n ∧ gs ds ρ Q
  | _ => False
/-- the slots but those at `is` are as they were -/
def Same (is : List Nat) (σ σ' : L2.St) : Prop := σ'.length = σ.length ∧ ∀ i, i ∉ is → σ'[i]? = σ[i]?
theorem Same.rfl {is : List Nat} {σ : L2.St} : Same is σ σ := ⟨Eq.refl _, fun _ _ => Eq.refl _⟩
theorem Same.wipe {is : List Nat} {σ σ' : L2.St} (h : Same is σ σ') : L2.wipe σ' is = L2.wipe σ is := by
  refine List.ext_getElem? fun i => ?_
  by_cases hi : i ∈ is
  · have e : ∀ τ : L2.St, (L2.wipe τ is)[i]? = if i < τ.length then some none else none := fun τ => by
      have := L2.wipe_length τ is
      by_cases hl : i < τ.length
      · rw [if_pos hl]
        cases q : (L2.wipe τ is)[i]? with
        | none => rw [List.getElem?_eq_none_iff] at q; omega
        | some s =>
          cases s with
          | none => exact Eq.refl _
          | some v => exact absurd hi (L2.wipe_some q).2
      · rw [if_neg hl, List.getElem?_eq_none (by omega)]
    rw [e, e, h.1]
  · rw [L2.wipe_out hi, L2.wipe_out hi, h.2 i hi]
def tG (K : PySem.W.Frag) (aw : Option Addr) (is : List Nat) (g : MG) : TG := fun v σ H R => ∃ G B ρ d Q, Ok K aw G B σ ρ H ∧ Rp K aw (cut H B) v d ∧ g d ρ Q ∧ ∀ σ' ρ', Ok K aw G B σ' ρ' H → Same is σ σ' → Q ρ' → R σ' H
def tGs (K : PySem.W.Frag) (aw : Option Addr) (is : List Nat) (g : MGs) : TGs := fun vs σ H R => ∃ G B ρ ds Q, Ok K aw G B σ ρ H ∧ RpA K aw (cut H B) vs ds ∧ g ds ρ Q ∧ ∀ σ' ρ', Ok K aw G B σ' ρ' H → Same is σ σ' → Q ρ' → R σ' H
abbrev SG (X : Cx) (aw : Option Addr) (is : List Nat) (e : Expr) (g : MG) : Prop := PG X e (tG X.K aw is g)
abbrev SGs (X : Cx) (aw : Option Addr) (is : List Nat) (es : List Expr) (g : MGs) : Prop := PGs X es (tGs X.K aw is g)
theorem pg_to {X : Cx} {e : Expr} {t t' : TG} (h : PG X e t) (i : ∀ v σ H R, t' v σ H R → t v σ H R) : PG X e t' := ⟨fun pins s σ H v u Q I r q => h.run pins s σ H v u Q I r (i v σ H Q q)⟩
theorem pgs_to {X : Cx} {e : List Expr} {t t' : TGs} (h : PGs X e t) (i : ∀ v σ H R, t' v σ H R → t v σ H R) : PGs X e t' := ⟨fun pins s σ H vs us Q I r q => h.run pins s σ H vs us Q I r (i vs σ H Q q)⟩
section
variable {X : Cx} {aw : Option Addr} {e : Expr} {es : List Expr} {g : MG} {gs : MGs} {pos : Pos} {is js : List Nat}
theorem sg_name {i : Nat} {x : Str} (h : PG X (.Name x pos) (gName i)) : SG X aw [i] (.Name x pos) (mgName i) := pg_to h fun v σ H R => by
  rintro ⟨G, B, ρ, d, Q, o, r, hg, k⟩
  refine k _ _ (o.set r i) ⟨by simp, fun j hj => ?_⟩ hg
  rw [List.getElem?_set_ne fun z => hj (by simp [z])]
theorem sgs_nil : SGs X aw [] [] mgNil := pgs_to pgs_nil fun v σ H R => by
  rintro ⟨G, B, ρ, ds, Q, o, r, ⟨rfl, hg⟩, k⟩
  cases r
  exact ⟨rfl, k σ ρ o .rfl hg⟩
theorem sgs_cons (h1 : SG X aw is e g) (h2 : SGs X aw js es gs) (hs : (assignEach (e :: es) X.env).map (·.2) = assign e X.env :: (assignEach es X.env).map (·.2) := by rfl) : SGs X aw (is ++ js) (e :: es) (mgCons g gs) := pgs_to (pgs_cons h1 h2 hs) fun v σ H R => by
  rintro ⟨G, B, ρ, ds, Q, o, r, hg, k⟩
  cases r with
  | nil => exact hg.elim
  | cons r0 rr =>
  refine ⟨_, _, rfl, G, B, ρ, _, _, o, r0, hg, fun σ' ρ' o' s' hg' => ⟨G, B, ρ', _, _, o', rr, hg', fun σ2 ρ2 o2 s2 q2 => k σ2 ρ2 o2 ⟨s2.1.trans s'.1, fun i hi => ?_⟩ q2⟩⟩
  rw [s2.2 i fun z => hi (List.mem_append_right _ z), s'.2 i fun z => hi (List.mem_append_left _ z)]
theorem sg_tup {k n : Nat} (hc : X.calm = true) (h : SGs X aw is es gs) (hn : (assignEach es X.env).length = n := by rfl) (hst : (assignEach es X.env).findIdx? (·.1) = none := by rfl) : SG X aw is (.Tuple es k pos) (mgTup n gs) := pg_to (pg_tup hc h hn hst) fun v σ H R => by
  rintro ⟨G, B, ρ, d, Q, o, r, hg, k⟩
  cases d with
  | tuple ds =>
    cases r with
    | tup h1 r1 => exact ⟨_, _, rfl, sqT_less h1, by rw [r1.length]; exact hg.1, G, B, ρ, ds, Q, o, r1, hg.2, k⟩
  | _ => exact hg.elim
theorem sg_lst {k n : Nat} (hc : X.calm = true) (h : SGs X aw is es gs) (hn : (assignEach es X.env).length = n := by rfl) (hst : (assignEach es X.env).findIdx? (·.1) = none := by rfl) : SG X aw is (.Tuple es k pos) (mgLst n gs) := pg_to (pg_unl hc h hn hst) fun v σ H R => by
  rintro ⟨G, B, ρ, d, Q, o, r, hg, k⟩
  cases d with
  | list ds =>
    cases r with
    | lst h1 r1 => exact ⟨_, _, rfl, .inl (.inl (cut_some h1).1), by rw [r1.length]; exact hg.1, G, B, ρ, ds, Q, o, r1, hg.2, k⟩
  | _ => exact hg.elim
end

/-! ### statements -/
structure Po where
  nx : En → Prop
  rt : D → Prop
  bk : En → Prop
  ct : En → Prop
abbrev MS := En → Po → Prop
def tS (K : PySem.W.Frag) (aw : Option Addr) (s : MS) : TS := fun Dn σ H => ∃ G B ρ P, Ok K aw G B σ ρ H ∧ s ρ P ∧
  (∀ σ' H' ρ' B', Ok K aw G B' σ' ρ' H' → Ext aw (cut H B) (cut H' B') → P.nx ρ' → Dn.nx σ' H') ∧
  (∀ v H' d, Ext aw G.H0 H' → World aw (cut H' G.Bc) → Rp K aw (cut H' G.Bc) v d → P.rt d → Dn.rt v H') ∧
  (∀ σ' H' ρ' B', Ok K aw G B' σ' ρ' H' → Ext aw (cut H B) (cut H' B') → P.bk ρ' → Dn.bk σ' H') ∧
  (∀ σ' H' ρ' B', Ok K aw G B' σ' ρ' H' → Ext aw (cut H B) (cut H' B') → P.ct ρ' → Dn.ct σ' H')
abbrev SS (X : Cx) (aw : Option Addr) (st : Stmt) (s : MS) : Prop := PS X st (tS X.K aw s)
abbrev SSs (X : Cx) (aw : Option Addr) (st : List Stmt) (s : MS) : Prop := PSs X st (tS X.K aw s)
def sNext : MS := fun ρ P => P.nx ρ
def sNever : MS := fun _ _ => False
def sBreak : MS := fun ρ P => P.bk ρ
def sCont : MS := fun ρ P => P.ct ρ
def sSeq (s t : MS) : MS := fun ρ P => s ρ { P with nx := fun ρ' => t ρ' P }
def sAsg (m : En → M D) (g : MG) : MS := fun ρ P => m ρ fun d => g d ρ P.nx
def sRet (m : En → M D) : MS := fun ρ P => m ρ P.rt
def sIf (c : En → M Bool) (s t : MS) : MS := fun ρ P => c ρ fun b => if b = true then s ρ P else t ρ P
def sDrop (m : En → M D) : MS := fun ρ P => m ρ fun _ => P.nx ρ
def sPar (i j : Nat) (t : En → M (List D)) : MS := fun ρ P => t ρ fun ds => match ds with
  | [a, b] => P.nx ((ρ.set i (.va a)).set j (.va b))
  | _ => False
def sPar3 (i j l : Nat) (t : En → M (List D)) : MS := fun ρ P => t ρ fun ds => match ds with
  | [a, b, c] => P.nx (((ρ.set i (.va a)).set j (.va b)).set l (.va c))
  | _ => False
/-- the own list in a slot is no more own: it may be told to others, and grows no more -/
def sFreeze (i : Nat) (s : MS) : MS := fun ρ P => match ρ[i]? with
  | some (.ow ds) => s (ρ.set i (.va (.list ds))) P
  | _ => False
section
variable {X : Cx} {aw : Option Addr} {st : Stmt} {rest sts sts2 : List Stmt} {s t : MS} {e c : Expr} {es : List Expr} {m : En → M D} {g : MG} {tt : En → M Bool} {ta : En → M (List D)} {pos : Pos} {is : List Nat}
theorem ret_less {K : PySem.W.Frag} {G : Gh} {B : List Addr} {σ : L2.St} {ρ : En} {H : Hp} {v : V} {d : D} (o : Ok K aw G B σ ρ H) (r : Rp K aw (cut H B) v d) : World aw (cut H G.Bc) ∧ Rp K aw (cut H G.Bc) v d := by
  have e : Ext aw (cut H B) (cut H G.Bc) := cut_less o.sub
  refine ⟨o.wld.ext e ?_, r.ext o.wld.ne e⟩
  intro a ea
  unfold cut
  rw [if_neg (o.awB a ea), if_neg fun z => o.awB a ea (o.sub _ z)]
theorem ss_nil : SSs X aw [] sNext := pss_to pss_nil fun Dn σ H => by
  rintro ⟨G, B, ρ, P, o, hs, h1, _⟩
  exact h1 σ H ρ B o (.refl _ _) hs
theorem ss_cons (h1 : SS X aw st s) (h2 : SSs X aw rest t) : SSs X aw (st :: rest) (sSeq s t) := pss_to (pss_cons h1 h2) fun Dn σ H => by
  rintro ⟨G, B, ρ, P, o, hs, k1, k2, k3, k4⟩
  refine ⟨G, B, ρ, _, o, hs, fun σ' H' ρ' B' o' e' q' => ?_, k2, k3, k4⟩
  exact ⟨G, B', ρ', P, o', q', fun σ2 H2 ρ2 B2 o2 e2 q2 => k1 σ2 H2 ρ2 B2 o2 (e'.trans e2) q2, k2, fun σ2 H2 ρ2 B2 o2 e2 q2 => k3 σ2 H2 ρ2 B2 o2 (e'.trans e2) q2, fun σ2 H2 ρ2 B2 o2 e2 q2 => k4 σ2 H2 ρ2 B2 o2 (e'.trans e2) q2⟩
theorem ss_one (h1 : SS X aw st s) : SSs X aw [st] s := pss_one h1
theorem ss_brk : SS X aw (.Break pos) sBreak := ps_to ps_break fun Dn σ H => by
  rintro ⟨G, B, ρ, P, o, hs, k1, k2, k3, k4⟩
  exact k3 σ H ρ B o (.refl _ _) hs
theorem ss_cont : SS X aw (.Continue pos) sCont := ps_to ps_continue fun Dn σ H => by
  rintro ⟨G, B, ρ, P, o, hs, k1, k2, k3, k4⟩
  exact k4 σ H ρ B o (.refl _ _) hs
theorem ss_never : SS X aw st sNever := ps_to ps_never fun Dn σ H => by
  rintro ⟨G, B, ρ, P, o, hs, _⟩
  exact hs.elim
theorem asg_reads : ∀ Dn σ H, tS X.K aw (sAsg m g) Dn σ H → tAsg (tM X.K aw m) (tG X.K aw is g) Dn σ H := fun Dn σ H => by
  rintro ⟨G, B, ρ, P, o, hs, k1, k2, k3, k4⟩
  refine ⟨G, B, ρ, _, o, hs, fun v H1 d e1 w1 r1 q1 => ?_⟩
  exact ⟨G, B, ρ, d, _, o.grow e1 w1, r1, q1, fun σ' ρ' o' _ q' => k1 σ' H1 ρ' B o' (cut_ext e1) q'⟩
theorem ss_asg (he : SE X aw e m) (hg : SG X aw is c g) (hs : swapsWithSole [c] e pos.line X.env = pure false := by rfl) (hw : swappedStores [c] e X.env = pure none := by rfl) (h1 : (assignEach [c] X.env).map (·.2) = [assign c X.env] := by rfl) : SS X aw (.Assign [c] e pos) (sAsg m g) :=
  ps_to (ps_asg he hg hs hw h1) (asg_reads (is := is))
theorem ss_ret (he : SE X aw e m) : SS X aw (.Return (some e) pos) (sRet m) := ps_to (ps_ret he) fun Dn σ H => by
  rintro ⟨G, B, ρ, P, o, hs, k1, k2, k3, k4⟩
  refine ⟨G, B, ρ, _, o, hs, fun v H1 d e1 w1 r1 q1 => ?_⟩
  have o1 := o.grow e1 w1
  obtain ⟨w2, r2⟩ := ret_less o1 r1
  exact k2 v H1 d o1.ext w2 r2 q1
theorem ss_if (hc : ST X aw c tt) (ha : SSs X aw sts s) (hb : SSs X aw sts2 t) : SS X aw (.If c sts sts2 pos) (sIf tt s t) := ps_to (ps_if hc ha hb) fun Dn σ H => by
  rintro ⟨G, B, ρ, P, o, hs, k1, k2, k3, k4⟩
  refine ⟨G, B, ρ, _, o, hs, fun H1 b e1 w1 q1 => ?_⟩
  have ec : Ext aw (cut H B) (cut H1 B) := cut_ext e1
  cases b with
  | true => exact ⟨G, B, ρ, P, o.grow e1 w1, q1, fun σ2 H2 ρ2 B2 o2 e2 q2 => k1 σ2 H2 ρ2 B2 o2 (ec.trans e2) q2, k2, fun σ2 H2 ρ2 B2 o2 e2 q2 => k3 σ2 H2 ρ2 B2 o2 (ec.trans e2) q2, fun σ2 H2 ρ2 B2 o2 e2 q2 => k4 σ2 H2 ρ2 B2 o2 (ec.trans e2) q2⟩
  | false => exact ⟨G, B, ρ, P, o.grow e1 w1, q1, fun σ2 H2 ρ2 B2 o2 e2 q2 => k1 σ2 H2 ρ2 B2 o2 (ec.trans e2) q2, k2, fun σ2 H2 ρ2 B2 o2 e2 q2 => k3 σ2 H2 ρ2 B2 o2 (ec.trans e2) q2, fun σ2 H2 ρ2 B2 o2 e2 q2 => k4 σ2 H2 ρ2 B2 o2 (ec.trans e2) q2⟩
theorem ss_drop (he : SE X aw e m) (hs : swapsWith e none pos.line X.env = pure false := by rfl) : SS X aw (.Expr e pos) (sDrop m) := ps_to (ps_expr he hs) fun Dn σ H => by
  rintro ⟨G, B, ρ, P, o, hs, k1, k2, k3, k4⟩
  exact ⟨G, B, ρ, _, o, hs, fun v H1 d e1 w1 r1 q1 => k1 σ H1 ρ B (o.grow e1 w1) (cut_ext e1) q1⟩
theorem ss_par {i j : Nat} {st : Stmt} (h : PS X st (tPar i j (tA X.K aw ta))) : SS X aw st (sPar i j ta) := ps_to h fun Dn σ H => by
  rintro ⟨G, B, ρ, P, o, hs, k1, k2, k3, k4⟩
  refine ⟨G, B, ρ, _, o, hs, fun vs H1 ds e1 w1 r1 q1 => ?_⟩
  have o1 := o.grow e1 w1
  split at q1
  · cases r1 with
    | cons r0 rr =>
    cases rr with
    | cons r2 rr =>
    cases rr
    exact ⟨_, _, rfl, k1 _ H1 _ B ((o1.set r0 i).set r2 j) (cut_ext e1) q1⟩
  · cases q1
theorem ss_par3 {i j l : Nat} {st : Stmt} (h : PS X st (tPar3 i j l (tA X.K aw ta))) : SS X aw st (sPar3 i j l ta) := ps_to h fun Dn σ H => by
  rintro ⟨G, B, ρ, P, o, hs, k1, k2, k3, k4⟩
  refine ⟨G, B, ρ, _, o, hs, fun vs H1 ds e1 w1 r1 q1 => ?_⟩
  have o1 := o.grow e1 w1
  split at q1
  · cases r1 with
    | cons r0 rr =>
    cases rr with
    | cons r2 rr =>
    cases rr with
    | cons r3 rr =>
    cases rr
    exact ⟨_, _, _, rfl, k1 _ H1 _ B (((o1.set r0 i).set r2 j).set r3 l) (cut_ext e1) q1⟩
  · cases q1
theorem Ok.freeze {K : PySem.W.Frag} {G : Gh} {B : List Addr} {σ : L2.St} {ρ : En} {H : Hp} {i : Nat} {ds : List D} (o : Ok K aw G B σ ρ H) (h : ρ[i]? = some (.ow ds)) :
    ∃ B', Ok K aw G B' σ (ρ.set i (.va (.list ds))) H ∧ Ext aw (cut H B) (cut H B') := by
  obtain ⟨p, xs, e, hp, h0, hc, hx, r⟩ := o.getO h
  have s : ∀ a ∈ B.filter (· ≠ p), a ∈ B := fun a ha => (List.mem_filter.mp ha).1
  have np : p ∉ B.filter (· ≠ p) := fun z => by simpa using (List.mem_filter.mp z).2
  have ec : Ext aw (cut H B) (cut H (B.filter (· ≠ p))) := cut_less s
  refine ⟨B.filter (· ≠ p), ⟨o.ext, o.wld.ext ec ?_, fun q hq => ?_, fun q hq => o.own q (s q hq), by simp [o.len], fun j sl hs => ?_, fun j k q es fs h1 h2 h3 h4 => ?_⟩, ec⟩
  · intro a ea
    unfold cut
    rw [if_neg (o.awB a ea), if_neg fun z => o.awB a ea (s _ z)]
  · refine List.mem_filter.mpr ⟨o.sub q hq, ?_⟩
    simp only [ne_eq, decide_not, Bool.not_eq_eq_eq_not, Bool.not_true, decide_eq_false_iff_not]
    exact fun z => hc (z ▸ hq)
  · by_cases ej : i = j
    · subst ej
      have hi : i < ρ.length := (List.getElem?_eq_some_iff.mp h).1
      rw [List.getElem?_set_self hi] at hs
      cases hs
      rw [e]
      exact ⟨_, rfl, .lst (cut_of hx np) (r.ext o.wld.ne ec)⟩
    · rw [List.getElem?_set_ne ej] at hs
      have q := o.env j sl hs
      cases sl with
      | no => trivial
      | va d => obtain ⟨v, e1, r1⟩ := q; exact ⟨v, e1, r1.ext o.wld.ne ec⟩
      | ow es =>
        obtain ⟨p', xs', e1, hp', h0', hc', hx', r'⟩ := q
        refine ⟨p', xs', e1, List.mem_filter.mpr ⟨hp', ?_⟩, h0', hc', hx', r'.ext o.wld.ne ec⟩
        simp only [ne_eq, decide_not, Bool.not_eq_eq_eq_not, Bool.not_true, decide_eq_false_iff_not]
        intro z
        subst z
        have e1' : σ[j]? = some (some (V.ref p')) := by
          cases q : σ[j]? with
          | none => rw [q] at e1; cases e1
          | some sv => rw [q] at e1; exact congrArg some e1
        exact ej (o.apart i j p' ds es h hs e e1')
  · obtain ⟨n1, h1⟩ := set_ow (fun _ z => by cases z) h1
    obtain ⟨n2, h2⟩ := set_ow (fun _ z => by cases z) h2
    exact o.apart j k q es fs h1 h2 h3 h4
theorem ss_freeze {i : Nat} (h : SSs X aw sts s) : SSs X aw sts (sFreeze i s) := pss_to h fun Dn σ H => by
  rintro ⟨G, B, ρ, P, o, hs, k1, k2, k3, k4⟩
  unfold sFreeze at hs
  split at hs
  · rename_i ds hd
    obtain ⟨B', o', ec⟩ := o.freeze hd
    exact ⟨G, B', _, P, o', hs, fun σ2 H2 ρ2 B2 o2 e2 q2 => k1 σ2 H2 ρ2 B2 o2 (ec.trans e2) q2, k2, fun σ2 H2 ρ2 B2 o2 e2 q2 => k3 σ2 H2 ρ2 B2 o2 (ec.trans e2) q2, fun σ2 H2 ρ2 B2 o2 e2 q2 => k4 σ2 H2 ρ2 B2 o2 (ec.trans e2) q2⟩
  · cases hs
end


/-! ### what is walked -/
/-- J walks ds while Hw stands; what it yields is worth its datum over Hv -/
structure Walk (K : PySem.W.Frag) (aw : Option Addr) (J : It) (Hw Hv : Hp) (ds : List D) : Prop where
  go : ∀ (i : Nat) (H : Hp) (d : D), Ext aw Hw H → ds[i]? = some d → J.go i H
  yld : ∀ (i : Nat) (H : Hp) (x : V) (H' : Hp) (d : D), Ext aw Hw H → ds[i]? = some d → J.yld i H x H' → H' = H ∧ Rp K aw Hv x d
  stop : ∀ (i : Nat) (H : Hp), Ext aw Hw H → ds.length ≤ i → J.stop i H
def tI (K : PySem.W.Frag) (aw : Option Addr) (it : En → M (List D)) : TI := fun σ H R => ∃ G B ρ Q, Ok K aw G B σ ρ H ∧ it ρ Q ∧ ∀ J H' ds Hv, Ext aw H H' → World aw (cut H' B) → Walk K aw J Hv Hv ds → World aw Hv → Ext aw Hv (cut H' B) → Q ds → R J H'
def tIc (K : PySem.W.Frag) (aw : Option Addr) (it : En → M (List D)) : TI := fun σ H R => ∃ G B ρ Q, Ok K aw G B σ ρ H ∧ it ρ Q ∧ ∀ J H' ds Hw Hv, Ext aw H H' → World aw (cut H' B) → Walk K aw J Hw Hv ds → World aw Hw → World aw Hv → Ext aw Hw H' → Ext aw Hv (cut H' B) → Q ds → R J H'
abbrev SI (X : Cx) (aw : Option Addr) (tg it : Expr) (m : En → M (List D)) : Prop := PI X tg it (tI X.K aw m)
abbrev SIc (X : Cx) (aw : Option Addr) (tg it : Expr) (m : En → M (List D)) : Prop := PI X tg it (tIc X.K aw m)
theorem pi_to {X : Cx} {tg e : Expr} {t t' : TI} (h : PI X tg e t) (i : ∀ σ H R, t' σ H R → t σ H R) : PI X tg e t' := ⟨fun pins s σ H R I q => h.run pins s σ H R I (i σ H R q)⟩
theorem cut_sub {aw : Option Addr} {H : Hp} {B : List Addr} : Ext aw (cut H B) H := ⟨fun a o _ h => (cut_some h).1, fun _ _ kvs h => ⟨kvs, (cut_some h).1⟩⟩
section
variable {X : Cx} {aw : Option Addr} {tg it : Expr} {m : En → M (List D)}
theorem si_c (h : SI X aw tg it m) : SIc X aw tg it m := pi_to h fun σ H R => by
  rintro ⟨G, B, ρ, Q, o, hm, k⟩
  exact ⟨G, B, ρ, Q, o, hm, fun J H' ds Hv e w W wv ev q => k J H' ds Hv Hv e w W wv wv (ev.trans cut_sub) ev q⟩
end
def itL (m : En → M D) : En → M (List D) := fun ρ Q => m ρ fun d => match d with
  | .list ds => Q ds
  | _ => False
def itT (m : En → M D) : En → M (List D) := fun ρ Q => m ρ fun d => match d with
  | .tuple ds => Q ds
  | _ => False
def rngD (a : Int) (n : Nat) : List D := (List.range n).map fun i : Nat => PyData.int (a + (i : Int))
def itR1 (t : En → M (List D)) : En → M (List D) := fun ρ Q => t ρ fun ds => match ds with
  | [.int b] => b ≤ 100000 ∧ -100000 ≤ b ∧ Q (rngD 0 b.toNat)
  | _ => False
def itR2 (t : En → M (List D)) : En → M (List D) := fun ρ Q => t ρ fun ds => match ds with
  | [.int a, .int b] => (a ≤ 100000 ∧ -100000 ≤ a) ∧ (b ≤ 100000 ∧ -100000 ≤ b) ∧ Q (rngD a (b - a).toNat)
  | _ => False
section
variable {X : Cx} {aw : Option Addr} {tg e a b : Expr} {m : En → M D} {t : En → M (List D)} {p pos : Pos}
theorem walk_list {K : PySem.W.Frag} {H : Hp} {a : Addr} {xs : List V} {ds : List D} (hw : NT H aw) (h : H a = some (.lst xs)) (r : RpA K aw H xs ds) : Walk K aw (Itl K a) H H ds := by
  refine ⟨fun i H' d e hd => ?_, fun i H' x H2 d e hd hy => ?_, fun i H' e hi => ?_⟩
  · obtain ⟨v, hv, _⟩ := r.get hd
    exact ⟨xs, v, .inl (.inl (e.ap a _ fx_lst h)), hv⟩
  · obtain ⟨e2, f⟩ := hy
    obtain ⟨v, hv, rv⟩ := r.get hd
    have := f xs (.inl (.inl (e.ap a _ fx_lst h)))
    rw [hv] at this
    cases this
    exact ⟨e2, rv⟩
  · exact ⟨xs, .inl (.inl (e.ap a _ fx_lst h)), by rw [r.length]; exact hi⟩
theorem walk_tup {K : PySem.W.Frag} {H : Hp} {a : Addr} {xs : List V} {ds : List D} (hw : NT H aw) (h : SqT K H a xs) (r : RpA K aw H xs ds) : Walk K aw (Itt K a) H H ds := by
  refine ⟨fun i H' d e hd => ?_, fun i H' x H2 d e hd hy => ?_, fun i H' e hi => ?_⟩
  · obtain ⟨v, hv, _⟩ := r.get hd
    exact ⟨xs, v, sqT_ext hw e h, hv⟩
  · obtain ⟨e2, f⟩ := hy
    obtain ⟨v, hv, rv⟩ := r.get hd
    have := f xs (sqT_ext hw e h)
    rw [hv] at this
    cases this
    exact ⟨e2, rv⟩
  · exact ⟨xs, sqT_ext hw e h, by rw [r.length]; exact hi⟩
theorem walk_rng {K : PySem.W.Frag} {H : Hp} {a : Int} {n : Nat} : Walk K aw (Itr a n) H H (rngD a n) := by
  have l : (rngD a n).length = n := by simp [rngD]
  refine ⟨fun i H' d e hd => ?_, fun i H' x H2 d e hd hy => ?_, fun i H' e hi => ?_⟩
  · have := (List.getElem?_eq_some_iff.mp hd).1
    rw [l] at this
    exact this
  · obtain ⟨e2, f⟩ := hy
    subst f
    refine ⟨e2, ?_⟩
    obtain ⟨h1, h2⟩ := List.getElem?_eq_some_iff.mp hd
    simp only [rngD, List.getElem_map, List.getElem_range] at h2
    subst h2
    exact .int _
  · show n ≤ i
    rw [l] at hi
    exact hi
theorem si_list (h : SE X aw e m) : SI X aw tg e (itL m) := pi_to (pi_list h) fun σ H R => by
  rintro ⟨G, B, ρ, Q, o, hm, k⟩
  refine ⟨G, B, ρ, _, o, hm, fun v H1 d e1 w1 r1 q1 => ?_⟩
  cases d with
  | list ds =>
    cases r1 with
    | lst h1 r2 => exact ⟨_, rfl, ⟨_, .inl (.inl (cut_some h1).1)⟩, k _ H1 ds _ e1 w1 (walk_list w1.ne h1 r2) w1 (.refl _ _) q1⟩
  | _ => cases q1
theorem si_tup (h : SE X aw e m) : SI X aw tg e (itT m) := pi_to (pi_tup h) fun σ H R => by
  rintro ⟨G, B, ρ, Q, o, hm, k⟩
  refine ⟨G, B, ρ, _, o, hm, fun v H1 d e1 w1 r1 q1 => ?_⟩
  cases d with
  | tuple ds =>
    cases r1 with
    | tup h1 r2 => exact ⟨_, rfl, ⟨_, sqT_less h1⟩, k _ H1 ds _ e1 w1 (walk_tup w1.ne h1 r2) w1 (.refl _ _) q1⟩
  | _ => cases q1
theorem si_rng1 (hg : Gl X "range") (hm : X.mg "range" = none) (ha : SA X aw [a] t) (hs : starEach [a] X.env = [(false, eval a X.env)] := by rfl) : SI X aw tg (.Call (.Name "range" p) [a] [] pos) (itR1 t) := pi_to (pi_range1 hg hm ha hs) fun σ H R => by
  rintro ⟨G, B, ρ, Q, o, hm, k⟩
  refine ⟨G, B, ρ, _, o, hm, fun vs H1 ds e1 w1 r1 q1 => ?_⟩
  split at q1
  · cases r1 with
    | cons r0 rr =>
    cases rr
    cases r0
    exact ⟨_, rfl, by omega, by omega, k _ H1 _ _ e1 w1 walk_rng w1 (.refl _ _) q1.2.2⟩
  · cases q1
theorem si_rng2 (hg : Gl X "range") (hm : X.mg "range" = none) (ha : SA X aw [a, b] t) (hs : starEach [a, b] X.env = [(false, eval a X.env), (false, eval b X.env)] := by rfl) (hs2 : starEach [b] X.env = [(false, eval b X.env)] := by rfl) : SI X aw tg (.Call (.Name "range" p) [a, b] [] pos) (itR2 t) := pi_to (pi_range2 hg hm ha hs hs2) fun σ H R => by
  rintro ⟨G, B, ρ, Q, o, hm, k⟩
  refine ⟨G, B, ρ, _, o, hm, fun vs H1 ds e1 w1 r1 q1 => ?_⟩
  split at q1
  · cases r1 with
    | cons r0 rr =>
    cases rr with
    | cons r3 rr =>
    cases rr
    cases r0
    cases r3
    exact ⟨_, _, rfl, ⟨by omega, by omega, by omega, by omega⟩, k _ H1 _ _ e1 w1 walk_rng w1 (.refl _ _) q1.2.2⟩
  · cases q1
end

/-! ### loops -/
def forW (g : MG) (b : MS) : List D → En → Po → Prop
  | [], ρ, P => P.nx ρ
  | d :: ds, ρ, P => g d ρ fun ρ1 => b ρ1 { nx := fun ρ2 => forW g b ds ρ2 P, rt := P.rt, bk := P.nx, ct := fun ρ2 => forW g b ds ρ2 P }
def sFor (it : En → M (List D)) (g : MG) (b : MS) : MS := fun ρ P => it ρ fun ds => forW g b ds ρ P
def whileW (c : En → M Bool) (b : MS) : Nat → En → Po → Prop
  | 0, _, _ => False
  | n + 1, ρ, P => c ρ fun x => if x = true then b ρ { nx := fun ρ2 => whileW c b n ρ2 P, rt := P.rt, bk := P.nx, ct := fun ρ2 => whileW c b n ρ2 P } else P.nx ρ
def sWhile (c : En → M Bool) (b : MS) : MS := fun ρ P => ∃ n, whileW c b n ρ P
section
variable {X : Cx} {aw : Option Addr} {tg it c : Expr} {m : En → M (List D)} {g : MG} {b : MS} {is : List Nat} {body : List Stmt} {pos : Pos} {tt : En → M Bool}
theorem ss_for (hp : PassesOwn (model X.prog X.w) X.A X.env X.xe) (hc : X.calm = true) (hi : SI X aw tg it m) (hg : SG X aw is tg g) (hb : SSs X aw body b) (hs : ∀ x, foldedSetIterable it X.env x = pure x := by intro _; rfl) : SS X aw (.For tg it body [] pos) (sFor m g b) :=
  ps_to (ps_for hp hc hi hg hb hs) fun Dn σ H => by
    rintro ⟨G, B, ρ, P, o, hm, k1, k2, k3, k4⟩
    refine ⟨G, B, ρ, _, o, hm, fun J H1 ds Hv e1 w1 W wv ev q1 => ?_⟩
    have o1 := o.grow e1 w1
    have ec : Ext aw (cut H B) (cut H1 B) := cut_ext e1
    refine ⟨fun i n σ' H' => ∃ ρ' B', Ok X.K aw G B' σ' ρ' H' ∧ Ext aw (cut H1 B) (cut H' B') ∧ i + n = ds.length ∧ forW g b (ds.drop i) ρ' P, ⟨ds.length, ρ, B, o1, .refl _ _, by omega, by rw [List.drop_zero]; exact q1⟩, ?_⟩
    rintro i n σ' H' ⟨ρ', B', o', x', hl, q⟩
    have evH : Ext aw Hv H' := (ev.trans x').trans cut_sub
    by_cases hi : i < ds.length
    · have hd : ds[i]? = some ds[i] := List.getElem?_eq_getElem hi
      rw [List.drop_eq_getElem_cons hi] at q
      refine .inr ⟨W.go i H' _ evH hd, fun σ2 H2 => ∃ ρ2 B2, Ok X.K aw G B2 σ2 ρ2 H2 ∧ Ext aw (cut H1 B) (cut H2 B2) ∧ forW g b (ds.drop (i + 1)) ρ2 P, ?_, fun x H2 hy => ?_⟩
      · rintro σ2 H2 ⟨ρ2, B2, o2, x2, q2⟩
        exact ⟨n - 1, by omega, ρ2, B2, o2, x2, by omega, q2⟩
      · obtain ⟨e2, r⟩ := W.yld i H' x H2 _ evH hd hy
        subst e2
        refine ⟨G, B', ρ', ds[i], _, o', r.ext wv.ne (ev.trans x'), q, fun σ3 ρ3 o3 _ q3 => ?_⟩
        refine ⟨G, B', ρ3, _, o3, q3, fun σ4 H4 ρ4 B4 o4 e4 q4 => ⟨ρ4, B4, o4, x'.trans e4, q4⟩, k2, fun σ4 H4 ρ4 B4 o4 e4 q4 => k1 σ4 H4 ρ4 B4 o4 (ec.trans (x'.trans e4)) q4, fun σ4 H4 ρ4 B4 o4 e4 q4 => ⟨ρ4, B4, o4, x'.trans e4, q4⟩⟩
    · rw [List.drop_of_length_le (by omega)] at q
      exact .inl ⟨W.stop i H' evH (by omega), k1 σ' H' ρ' B' o' (ec.trans x') q⟩
theorem ss_while (hp : PassesOwn (model X.prog X.w) X.A X.env X.xe) (hc : ST X aw c tt) (hb : SSs X aw body b) : SS X aw (.While c body [] pos) (sWhile tt b) :=
  ps_to (ps_while hp hc hb) fun Dn σ H => by
    rintro ⟨G, B, ρ, P, o, ⟨n0, hm⟩, k1, k2, k3, k4⟩
    refine ⟨fun n σ' H' => ∃ ρ' B', Ok X.K aw G B' σ' ρ' H' ∧ Ext aw (cut H B) (cut H' B') ∧ whileW tt b n ρ' P, ⟨n0, ρ, B, o, .refl _ _, hm⟩, ?_⟩
    rintro n σ' H' ⟨ρ', B', o', x', q⟩
    cases n with
    | zero => exact q.elim
    | succ n =>
    refine ⟨G, B', ρ', _, o', q, fun H2 v e2 w2 q2 => ?_⟩
    have o2 := o'.grow e2 w2
    have x2 := x'.trans (cut_ext (B := B') e2)
    cases v with
    | true =>
      refine ⟨fun σ4 H4 => ∃ ρ4 B4, Ok X.K aw G B4 σ4 ρ4 H4 ∧ Ext aw (cut H B) (cut H4 B4) ∧ whileW tt b n ρ4 P, ?_, ?_⟩
      · rintro σ4 H4 ⟨ρ4, B4, q4⟩
        exact ⟨n, Nat.lt_succ_self n, ρ4, B4, q4⟩
      · exact ⟨G, B', ρ', _, o2, q2, fun σ4 H4 ρ4 B4 o4 e4 q4 => ⟨ρ4, B4, o4, x2.trans e4, q4⟩, k2, fun σ4 H4 ρ4 B4 o4 e4 q4 => k1 σ4 H4 ρ4 B4 o4 (x2.trans e4) q4, fun σ4 H4 ρ4 B4 o4 e4 q4 => ⟨ρ4, B4, o4, x2.trans e4, q4⟩⟩
    | false => exact k1 σ' H2 ρ' B' o2 x2 q2
end


/-! ### own lists -/
section
variable {K : PySem.W.Frag} {aw : Option Addr} {G : Gh} {B : List Addr} {σ : L2.St} {ρ : En} {H H' : Hp}
theorem ne_mem {p q : Addr} (h : q ∈ B) (n : p ∉ B) : q ≠ p := fun z => n (by rw [← z]; exact h)
theorem cut_new {p : Addr} {o : HO} (hp : H p = none) : cut (upd H p o) (p :: B) = cut H B := by
  funext a
  unfold cut
  by_cases e : a = p
  · subst e
    rw [if_pos List.mem_cons_self, hp]
    split <;> rfl
  · rw [upd_ne e]
    by_cases h : a ∈ B
    · rw [if_pos h, if_pos (List.mem_cons_of_mem _ h)]
    · rw [if_neg h, if_neg fun z => (List.mem_cons.mp z).elim e h]
/-- a new list, one's own -/
theorem Ok.made (o : Ok K aw G B σ ρ H) {p : Addr} (hp : H p = none) {xs : List V} {ds : List D} (r : RpA K aw (cut H B) xs ds) (i : Nat) : Ok K aw G (p :: B) (σ.set i (some (.ref p))) (ρ.set i (.ow ds)) (upd H p (.lst xs)) := by
  have ec : cut (upd H p (.lst xs)) (p :: B) = cut H B := cut_new hp
  have npB : p ∉ B := fun z => by
    obtain ⟨ys, h⟩ := o.own p z
    rw [hp] at h; cases h
  have npaw : some p ≠ aw := fun z => by
    obtain ⟨kvs, h⟩ := o.wld.ne p z.symm
    have := (cut_some h).1
    rw [hp] at this; cases this
  have h0 : G.H0 p = none := by
    cases q : G.H0 p with
    | none => rfl
    | some u => have := o.ext.ap p u (fx_ne npaw) q; rw [hp] at this; cases this
  refine ⟨o.ext.trans (.new hp), by rw [ec]; exact o.wld, fun q hq => List.mem_cons_of_mem _ (o.sub q hq), fun q hq => ?_, by simp [o.len], fun j s hs => ?_, fun j k q es fs h1 h2 h3 h4 => ?_⟩
  · rcases List.mem_cons.mp hq with e | e
    · subst e; exact ⟨xs, upd_same⟩
    · obtain ⟨ys, h⟩ := o.own q e
      exact ⟨ys, (upd_ne (ne_mem e npB)).trans h⟩
  · by_cases e : i = j
    · subst e
      by_cases hi : i < ρ.length
      · rw [List.getElem?_set_self hi] at hs
        cases hs
        rw [List.getElem?_set_self (by rw [o.len]; exact hi)]
        exact ⟨p, xs, rfl, List.mem_cons_self, h0, fun z => npB (o.sub p z), upd_same, by rw [ec]; exact r⟩
      · rw [List.getElem?_eq_none (by simpa using hi)] at hs; cases hs
    · rw [List.getElem?_set_ne e] at hs
      rw [List.getElem?_set_ne e]
      have q := o.env j s hs
      cases s with
      | no => trivial
      | va d => obtain ⟨v, e1, r1⟩ := q; exact ⟨v, e1, by rw [ec]; exact r1⟩
      | ow es =>
        obtain ⟨p', ys, e1, hp', a1, a2, hx, r'⟩ := q
        exact ⟨p', ys, e1, List.mem_cons_of_mem _ hp', a1, a2, (upd_ne (ne_mem hp' npB)).trans hx, by rw [ec]; exact r'⟩
  · by_cases ej : i = j
    · by_cases ek : i = k
      · rw [← ej, ← ek]
      · exfalso
        rw [List.getElem?_set_ne ek] at h2 h4
        subst ej
        have hi : i < σ.length := by
          by_cases hi : i < ρ.length
          · rw [o.len]; exact hi
          · rw [List.getElem?_eq_none (by simpa using hi)] at h1; cases h1
        rw [List.getElem?_set_self hi] at h3
        have e3 : p = q := by injection h3 with h3; injection h3 with h3; injection h3
        obtain ⟨p', ys, e1, hp', _⟩ := o.getO h2
        rw [h4] at e1
        have e4 : q = p' := by injection e1 with h3; injection h3 with h3; injection h3
        exact npB (by rw [e3, e4]; exact hp')
    · by_cases ek : i = k
      · exfalso
        rw [List.getElem?_set_ne ej] at h1 h3
        subst ek
        have hi : i < σ.length := by
          by_cases hi : i < ρ.length
          · rw [o.len]; exact hi
          · rw [List.getElem?_eq_none (by simpa using hi)] at h2; cases h2
        rw [List.getElem?_set_self hi] at h4
        have e3 : p = q := by injection h4 with h3; injection h3 with h3; injection h3
        obtain ⟨p', ys, e1, hp', _⟩ := o.getO h1
        rw [h3] at e1
        have e4 : q = p' := by injection e1 with h3; injection h3 with h3; injection h3
        exact npB (by rw [e3, e4]; exact hp')
      · rw [List.getElem?_set_ne ej] at h1 h3
        rw [List.getElem?_set_ne ek] at h2 h4
        exact o.apart j k q es fs h1 h2 h3 h4
/-- the own list in a slot is another -/
theorem Ok.upd (o : Ok K aw G B σ ρ H) {i : Nat} {p : Addr} {ds es : List D} {ys : List V} (h : ρ[i]? = some (.ow ds)) (hs : σ[i]? = some (some (.ref p))) (r : RpA K aw (cut H B) ys es) : Ok K aw G B σ (ρ.set i (.ow es)) (L2.upd H p (.lst ys)) ∧ p ∈ B := by
  obtain ⟨p', xs, e, hp, h0, hc, hx, r0⟩ := o.getO h
  have ep : p' = p := by rw [hs] at e; injection e with e; injection e with e; injection e with e; exact e.symm
  subst ep
  have ec : cut (L2.upd H p' (.lst ys)) B = cut H B := cut_upd hp
  refine ⟨⟨o.ext.mut h0, by rw [ec]; exact o.wld, o.sub, fun q hq => ?_, by simp [o.len], fun j s hj => ?_, fun j k q fs gs h1 h2 h3 h4 => ?_⟩, hp⟩
  · by_cases e : q = p'
    · subst e; exact ⟨ys, upd_same⟩
    · obtain ⟨zs, hz⟩ := o.own q hq
      exact ⟨zs, by rw [upd_ne e]; exact hz⟩
  · by_cases ej : i = j
    · subst ej
      have hi : i < ρ.length := (List.getElem?_eq_some_iff.mp h).1
      rw [List.getElem?_set_self hi] at hj
      cases hj
      rw [hs]
      exact ⟨p', ys, rfl, hp, h0, hc, upd_same, by rw [ec]; exact r⟩
    · rw [List.getElem?_set_ne ej] at hj
      have q := o.env j s hj
      cases s with
      | no => trivial
      | va d => obtain ⟨v, e1, r1⟩ := q; exact ⟨v, e1, by rw [ec]; exact r1⟩
      | ow fs =>
        obtain ⟨q', zs, e1, hq', a1, a2, hz, r'⟩ := q
        have nq : q' ≠ p' := fun z => by
          subst z
          obtain ⟨q2, zs2, e2, _⟩ := o.getO hj
          have e3 : σ[j]? = some (some (V.ref q')) := by
            rw [e2] at e1 ⊢
            have : some (V.ref q2) = some (V.ref q') := e1
            rw [this]
          exact ej (o.apart i j q' ds fs h hj hs e3)
        exact ⟨q', zs, e1, hq', a1, a2, by rw [upd_ne nq]; exact hz, by rw [ec]; exact r'⟩
  · have g1 : ∀ {n : Nat} {l : List D}, (ρ.set i (Sl.ow es))[n]? = some (Sl.ow l) → ∃ l', ρ[n]? = some (Sl.ow l') := fun {n l} hn => by
      by_cases e : i = n
      · subst e; exact ⟨ds, h⟩
      · rw [List.getElem?_set_ne e] at hn; exact ⟨l, hn⟩
    obtain ⟨l1, h1⟩ := g1 h1
    obtain ⟨l2, h2⟩ := g1 h2
    exact o.apart j k q l1 l2 h1 h2 h3 h4
end
def sOwn (i : Nat) (t : En → M (List D)) : MS := fun ρ P => t ρ fun ds => ds.length ≤ 100000 ∧ P.nx (ρ.set i (.ow ds))
def sApp (i : Nat) (t : En → M (List D)) : MS := fun ρ P => match ρ[i]? with
  | some (.ow ds) => t ρ fun es => match es with
    | [d] => ds.length < 100000 ∧ P.nx (ρ.set i (.ow (ds ++ [d])))
    | _ => False
  | _ => False
def sIns (i : Nat) (t : En → M (List D)) : MS := fun ρ P => match ρ[i]? with
  | some (.ow ds) => t ρ fun es => match es with
    | [.int n, d] => ds.length < 100000 ∧ 0 ≤ n ∧ n ≤ 100000 ∧ P.nx (ρ.set i (.ow (ds.take n.toNat ++ [d] ++ ds.drop n.toNat)))
    | _ => False
  | _ => False
section
variable {X : Cx} {aw : Option Addr} {e : Expr} {es : List Expr} {t : En → M (List D)} {pos : Pos} {i : Nat} {st : Stmt}
theorem ss_own {x : Str} {p : Pos} {pl : Pos} (h : ∀ te, PE X (.List es pl) te → PS X (.Assign [.Name x p] (.List es pl) pos) (tAsg te (gName i))) (ha : SA X aw es t) : SS X aw (.Assign [.Name x p] (.List es pl) pos) (sOwn i t) := ps_to (h _ (pe_lst ha)) fun Dn σ H => by
  rintro ⟨G, B, ρ, P, o, hs, k1, k2, k3, k4⟩
  refine ⟨G, B, ρ, _, o, hs, fun vs H1 ds e1 w1 r1 q1 => ⟨by rw [r1.length]; exact le_line q1.1, fun p hp => ?_⟩⟩
  have o1 := o.grow e1 w1
  refine k1 _ _ _ _ (o1.made hp r1 i) ?_ q1.2
  rw [cut_new hp]
  exact cut_ext e1
theorem getO_V {K : PySem.W.Frag} {G : Gh} {B : List Addr} {σ : L2.St} {ρ : En} {H : Hp} {ds : List D} (o : Ok K aw G B σ ρ H) (h : ρ[i]? = some (.ow ds)) : ∃ p xs, σ[i]? = some (some (.ref p)) ∧ H p = some (.lst xs) ∧ RpA K aw (cut H B) xs ds := by
  obtain ⟨p, xs, a, _, _, _, b, c⟩ := o.getO h
  exact ⟨p, xs, a, b, c⟩
theorem ss_app (h : PS X st (tDrop (tBM X.K "list" rAppend (tVar i) (tA X.K aw t)))) : SS X aw st (sApp i t) := ps_to h fun Dn σ H => by
  rintro ⟨G, B, ρ, P, o, hs, k1, k2, k3, k4⟩
  unfold sApp at hs
  split at hs
  · rename_i ds hd
    obtain ⟨p, xs, e, hx, r⟩ := getO_V o hd
    refine ⟨_, e, .inl ⟨rfl, xs, .inl (.inl hx)⟩, G, B, ρ, _, o, hs, fun vs H1 es e1 w1 r1 q1 => ?_⟩
    split at q1
    · rename_i d
      cases r1 with
      | cons r0 rr =>
      cases rr
      have o1 := o.grow e1 w1
      obtain ⟨p', xs', e', hx', r'⟩ := getO_V o1 hd
      rw [e] at e'
      have ep : p = p' := by injection e' with e'; injection e' with e'; injection e'
      subst ep
      obtain ⟨o2, hp⟩ := o1.upd hd e (r'.app (.cons r0 .nil))
      refine ⟨p, xs', _, rfl, rfl, hx', by rw [r'.length]; exact lt_line q1.1, ?_⟩
      refine k1 _ _ _ B o2 ?_ q1.2
      rw [cut_upd hp]
      exact cut_ext e1
    · cases q1
  · cases hs
theorem ss_ins (h : PS X st (tDrop (tBM X.K "list" (fun x vs H Q => ∃ (l : Addr) (xs : List V) (i : Int) (y : V), x = .ref l ∧ vs = [.int i, y] ∧ H l = some (.lst xs) ∧ xs.length < sizeLine ∧ 0 ≤ i ∧ i < 2 ^ 63 ∧
    Q .non (upd H l (.lst (xs.take i.toNat ++ [y] ++ xs.drop i.toNat)))) (tVar i) (tA X.K aw t)))) : SS X aw st (sIns i t) := ps_to h fun Dn σ H => by
  rintro ⟨G, B, ρ, P, o, hs, k1, k2, k3, k4⟩
  unfold sIns at hs
  split at hs
  · rename_i ds hd
    obtain ⟨p, xs, e, hx, r⟩ := getO_V o hd
    refine ⟨_, e, .inl ⟨rfl, xs, .inl (.inl hx)⟩, G, B, ρ, _, o, hs, fun vs H1 es e1 w1 r1 q1 => ?_⟩
    split at q1
    · rename_i n d
      cases r1 with
      | cons r0 rr =>
      cases rr with
      | cons r2 rr =>
      cases rr
      cases r0
      have o1 := o.grow e1 w1
      obtain ⟨p', xs', e', hx', r'⟩ := getO_V o1 hd
      rw [e] at e'
      have ep : p = p' := by injection e' with e'; injection e' with e'; injection e'
      subst ep
      obtain ⟨o2, hp⟩ := o1.upd hd e (((r'.take n.toNat).app (.cons r2 .nil)).app (r'.drop n.toNat))
      refine ⟨p, xs', n, _, rfl, rfl, hx', by rw [r'.length]; exact lt_line q1.1, q1.2.1, by have := q1.2.2.1; omega, ?_⟩
      refine k1 _ _ _ B o2 ?_ q1.2.2.2
      rw [cut_upd hp]
      exact cut_ext e1
    · cases q1
  · cases hs
/-- walking an own list in a comprehension -/
def itO (i : Nat) : En → M (List D) := fun ρ Q => match ρ[i]? with
  | some (.ow ds) => Q ds
  | _ => False
theorem si_own {tg : Expr} {x : Str} {p : Pos} (h : PE X (.Name x p) (tVar i)) : SIc X aw tg (.Name x p) (itO i) := pi_to (pi_list h) fun σ H R => by
  rintro ⟨G, B, ρ, Q, o, hm, k⟩
  unfold itO at hm
  split at hm
  · rename_i ds hd
    obtain ⟨p, xs, e, hx, r⟩ := getO_V o hd
    refine ⟨_, e, p, rfl, ⟨xs, .inl (.inl hx)⟩, ?_⟩
    have ww : World aw H := o.wld.ext cut_sub (fun a ea => by unfold cut; rw [if_neg (o.awB a ea)])
    have W0 := walk_list ww.ne hx (r.ext o.wld.ne cut_sub)
    refine k _ H ds H (cut H B) (.refl _ _) o.wld ⟨W0.go, fun i H' x H2 d e hd hy => ?_, W0.stop⟩ ww o.wld (.refl _ _) (.refl _ _) hm
    obtain ⟨e2, f⟩ := hy
    obtain ⟨v, hv, rv⟩ := r.get hd
    have := f xs (.inl (.inl (e.ap p _ fx_lst hx)))
    rw [hv] at this
    cases this
    exact ⟨e2, rv⟩
  · cases hm
end
/-! ### comprehensions -/
def wipeE (ρ : En) : List Nat → En
  | [] => ρ
  | v :: vs => (wipeE ρ vs).set v .no
def lcW (g : MG) (c : En → M Bool) (m : En → M D) (ρ0 : En) : List D → List D → M (List D)
  | [], acc, Q => Q acc
  | d :: ds, acc, Q => g d ρ0 fun ρ1 => c ρ1 fun b => if b = true then m ρ1 fun y => lcW g c m ρ0 ds (acc ++ [y]) Q else lcW g c m ρ0 ds acc Q
def eLc (it : En → M (List D)) (is : List Nat) (g : MG) (c : En → M Bool) (m : En → M D) : En → M D := fun ρ Q => it ρ fun ds => ds.length < 100000 ∧ lcW g c m (wipeE ρ is) ds [] fun out => Q (.list out)
def mYes : En → M Bool := fun _ Q => Q true
section
variable {K : PySem.W.Frag} {aw : Option Addr} {G : Gh} {B : List Addr} {σ : L2.St} {ρ : En} {H H1 : Hp}
theorem wipeE_length (ρ : En) : ∀ vs : List Nat, (wipeE ρ vs).length = ρ.length
  | [] => rfl
  | v :: vs => by unfold wipeE; rw [List.length_set, wipeE_length ρ vs]
theorem wipeE_get {ρ : En} {i : Nat} {s : Sl} : ∀ {vs : List Nat}, (wipeE ρ vs)[i]? = some s → s ≠ .no → ρ[i]? = some s ∧ i ∉ vs
  | [], h, _ => ⟨h, by simp⟩
  | v :: vs, h, n => by
    unfold wipeE at h
    by_cases hi : v = i
    · subst hi
      by_cases hv : v < (wipeE ρ vs).length
      · rw [List.getElem?_set_self hv] at h; exact absurd (Option.some.inj h).symm n
      · rw [List.getElem?_eq_none (by simpa using hv)] at h; cases h
    · rw [List.getElem?_set_ne hi] at h
      obtain ⟨h1, h2⟩ := wipeE_get h n
      exact ⟨h1, by simp only [List.mem_cons, not_or]; exact ⟨fun e => hi e.symm, h2⟩⟩
/-- within a comprehension -/
theorem Ok.under (o : Ok K aw G B σ ρ H1) {Dl : Addr} (hD : H1 Dl = none) (e : Ext aw H1 H) (w : World aw (cut H (Dl :: B))) {acc : List V} (hD' : H Dl = some (.lst acc)) (vs : List Nat) :
    Ok K aw G (Dl :: B) (wipe σ vs) (wipeE ρ vs) H ∧ Ext aw (cut H1 B) (cut H (Dl :: B)) := by
  have ec : Ext aw (cut H1 B) (cut H (Dl :: B)) := ⟨fun a u n h => by
    obtain ⟨h1, h2⟩ := cut_some h
    exact cut_of (e.ap a u n h1) fun z => (List.mem_cons.mp z).elim (fun z => by rw [z, hD] at h1; cases h1) h2, fun z ez kvs h => by
    obtain ⟨h1, h2⟩ := cut_some h
    obtain ⟨k', h'⟩ := e.dk z ez kvs h1
    exact ⟨k', cut_of h' fun z => (List.mem_cons.mp z).elim (fun z => by rw [z, hD] at h1; cases h1) h2⟩⟩
  refine ⟨⟨o.ext.trans e, w, fun p hp => List.mem_cons_of_mem _ (o.sub p hp), fun p hp => ?_, by rw [wipe_length, wipeE_length]; exact o.len, fun i s hs => ?_, fun i j p ds es h1 h2 h3 h4 => ?_⟩, ec⟩
  · rcases List.mem_cons.mp hp with z | z
    · rw [z]; exact ⟨acc, hD'⟩
    · obtain ⟨xs, h⟩ := o.own p z
      exact ⟨xs, e.ap p _ fx_lst h⟩
  · cases s with
    | no => trivial
    | va d =>
      obtain ⟨h1, h2⟩ := wipeE_get hs (by simp)
      obtain ⟨v, e1, r⟩ := o.get h1
      exact ⟨v, by rw [wipe_out h2, e1]; rfl, r.ext o.wld.ne ec⟩
    | ow ds =>
      obtain ⟨h1, h2⟩ := wipeE_get hs (by simp)
      obtain ⟨p, xs, e1, hp, a1, a2, hx, r⟩ := o.getO h1
      exact ⟨p, xs, by rw [wipe_out h2, e1]; rfl, List.mem_cons_of_mem _ hp, a1, a2, e.ap p _ fx_lst hx, r.ext o.wld.ne ec⟩
  · obtain ⟨g1, n1⟩ := wipeE_get h1 (by simp)
    obtain ⟨g2, n2⟩ := wipeE_get h2 (by simp)
    rw [wipe_out n1] at h3
    rw [wipe_out n2] at h4
    exact o.apart i j p ds es g1 g2 h3 h4
end
section
variable {X : Cx} {aw : Option Addr} {elt tg iter : Expr} {ifs : List Expr} {scope : Scope} {own : List (Str × Nat)} {pos : Pos} {it : En → M (List D)} {g : MG} {c : En → M Bool} {m : En → M D}
theorem lc_reads : ∀ σ H R, tM X.K aw (eLc it (own.map (·.2)) g c m) σ H R → tLc (tIc X.K aw it) (tG X.K aw (own.map (·.2)) g) (tT X.K aw c) (tM X.K aw m) (own.map (·.2)) σ H R := fun σ H R => by
  rintro ⟨G, B, ρ, Q, o, hm, k⟩
  refine ⟨G, B, ρ, _, o, hm, fun J H1 ds Hw Hv e1 w1 W wW wv eW eV q1 => ?_⟩
  intro Dl hD
  have o1 := o.grow e1 w1
  obtain ⟨hlen, q1⟩ := q1
  have nDaw : some Dl ≠ aw := fun z => by
    obtain ⟨kvs, h⟩ := o1.wld.ne Dl z.symm
    have := (cut_some h).1
    rw [hD] at this; cases this
  refine ⟨fun i n H' => ∃ acc dacc, Ext aw H1 H' ∧ World aw (cut H' (Dl :: B)) ∧ H' Dl = some (.lst acc) ∧ RpA X.K aw (cut H' (Dl :: B)) acc dacc ∧ dacc.length ≤ i ∧ i + n = ds.length ∧ lcW g c m (wipeE ρ (own.map (·.2))) (ds.drop i) dacc fun out => Q (.list out),
    ⟨ds.length, [], [], .new hD, by rw [cut_new hD]; exact w1, upd_same, .nil, by simp, by omega, by rw [List.drop_zero]; exact q1⟩, ?_⟩
  rintro i n H' ⟨acc, dacc, e', w', hD', r', hl, hn, q⟩
  have evH : Ext aw Hw H' := eW.trans e'
  obtain ⟨ou, ec⟩ := o1.under hD e' w' hD' (own.map (·.2))
  by_cases hi : i < ds.length
  · have hd : ds[i]? = some ds[i] := List.getElem?_eq_getElem hi
    rw [List.drop_eq_getElem_cons hi] at q
    refine .inr ⟨W.go i H' _ evH hd, fun H2 => ∃ acc dacc, Ext aw H1 H2 ∧ World aw (cut H2 (Dl :: B)) ∧ H2 Dl = some (.lst acc) ∧ RpA X.K aw (cut H2 (Dl :: B)) acc dacc ∧ dacc.length ≤ i + 1 ∧ lcW g c m (wipeE ρ (own.map (·.2))) (ds.drop (i + 1)) dacc fun out => Q (.list out), ?_, fun x H2 hy => ?_⟩
    · rintro H2 ⟨acc2, dacc2, a1, a2, a3, a4, a5, a6⟩
      exact ⟨n - 1, by omega, acc2, dacc2, a1, a2, a3, a4, a5, by omega, a6⟩
    · obtain ⟨e2, r⟩ := W.yld i H' x H2 _ evH hd hy
      subst e2
      refine ⟨G, Dl :: B, _, ds[i], _, ou, r.ext wv.ne (eV.trans ec), q, fun σ3 ρ3 o3 s3 q3 => ⟨?_, ?_⟩⟩
      · have := s3.wipe
        rw [this]
        have e : ∀ (τ : L2.St) (l : List Nat), wipe (wipe τ l) l = wipe τ l := fun τ l => by
          refine List.ext_getElem? fun j => ?_
          by_cases hj : j ∈ l
          · have lw := wipe_length τ l
            have lw2 := wipe_length (wipe τ l) l
            have none_of : ∀ (τ' : L2.St), (wipe τ' l)[j]? = if j < τ'.length then some none else none := fun τ' => by
              have := wipe_length τ' l
              by_cases hl : j < τ'.length
              · rw [if_pos hl]
                cases q : (wipe τ' l)[j]? with
                | none => rw [List.getElem?_eq_none_iff] at q; omega
                | some s =>
                  cases s with
                  | none => rfl
                  | some v => exact absurd hj (wipe_some q).2
              · rw [if_neg hl, List.getElem?_eq_none (by omega)]
            rw [none_of, none_of, lw]
          · rw [wipe_out hj]
        exact e σ _
      · refine ⟨G, Dl :: B, ρ3, _, o3, q3, fun H3 b e3 w3 q4 => ?_⟩
        have o4 := o3.grow e3 w3
        have hD3 : H3 Dl = some (.lst acc) := e3.ap Dl _ fx_lst hD'
        have r3 : RpA X.K aw (cut H3 (Dl :: B)) acc dacc := r'.ext w'.ne (cut_ext e3)
        cases b with
        | true =>
          refine ⟨G, Dl :: B, ρ3, _, o4, q4, fun y H4 d e5 w5 r5 q5 => ⟨acc, e5.ap Dl _ fx_lst hD3, by rw [r3.length]; exact lt_line (by omega), ?_⟩⟩
          have hD4 : Dl ∈ Dl :: B := List.mem_cons_self
          refine ⟨acc ++ [y], dacc ++ [d], (((e'.trans e3).trans e5).mut hD), by rw [cut_upd hD4]; exact w5, upd_same, by rw [cut_upd hD4]; exact (r3.ext w3.ne (cut_ext e5)).app (.cons r5 .nil), by simp; omega, q5⟩
        | false => exact ⟨acc, dacc, e'.trans e3, w3, hD3, r3, by omega, q4⟩
  · rw [List.drop_of_length_le (by omega)] at q
    refine .inl ⟨W.stop i H' evH (by omega), ?_⟩
    have el : Ext aw (cut H' (Dl :: B)) (cut H' B) := cut_less fun a ha => List.mem_cons_of_mem _ ha
    have nB : Dl ∉ B := fun z => by
      obtain ⟨xs, h⟩ := o1.own Dl z
      rw [hD] at h; cases h
    have wB : World aw (cut H' B) := w'.ext el (fun a ea => by
      unfold cut
      rw [if_neg (o1.awB a ea), if_neg fun z => (List.mem_cons.mp z).elim (fun y => nDaw (by rw [← y]; exact ea.symm)) (o1.awB a ea)])
    exact k _ H' _ (e1.trans e') wB (.lst (cut_of hD' nB) (r'.ext w'.ne el)) q
theorem pts_to {X : Cx} {e : List Expr} {t t' : TT} (h : PTs X e t) (i : ∀ σ H R, t' σ H R → t σ H R) : PTs X e t' := ⟨fun pins s σ H Q I q => h.run pins s σ H Q I (i σ H Q q)⟩
theorem sts_nil : PTs X [] (tT X.K aw mYes) := pts_to pts_nil fun σ H R => by
  rintro ⟨G, B, ρ, Q, o, hm, k⟩
  exact k H true (.refl _ _) o.wld hm
theorem sts_one {e : Expr} (h : ST X aw e c) : PTs X [e] (tT X.K aw c) := pts_one h
/-- [elt for tg in iter if ..] -/
theorem se_lc (hc : X.calm = true) (hN : X.N.Nodup) (ok : BlkOk X.N X.env.scope scope own) (hi : SIc X aw tg iter it)
    (hg : ∀ (s : Shared) (H : Hp) (C : Addr) (cl : List (Str × Addr)) (fp : List Addr), SG (X.blk s H scope (compEnvC scope cl C X.env) fp) aw (own.map (·.2)) tg g) (ht : ∀ (s : Shared) (H : Hp) (C : Addr) (cl : List (Str × Addr)) (fp : List Addr), PTs (X.blk s H scope (compEnvC scope cl C X.env) fp) ifs (tT X.K aw c))
    (he : ∀ (s : Shared) (H : Hp) (C : Addr) (cl : List (Str × Addr)) (fp : List Addr), SE (X.blk s H scope (compEnvC scope cl C X.env) fp) aw elt m) (hs : ∀ x, foldedSetIterable iter X.env x = pure x := by intro _; rfl) :
    SE X aw (.ListComp elt [⟨tg, iter, ifs, 0⟩] scope pos) (eLc it (own.map (·.2)) g c m) := pe_to (pe_lc hc hN hi ok hg ht he hs) lc_reads
/-- name = [..] on one line -/
theorem ss_lc {i : Nat} {y : Str} {py spos : Pos} (hc : X.calm = true) (hN : X.N.Nodup) (ok : BlkOk X.N X.env.scope scope own) (hy : X.N[i]? = some y) (hyl : X.env.scope.names.lookup y = some .local)
    (hsw : swapsWith (.ListComp elt [⟨tg, iter, ifs, 0⟩] scope pos) (some (.Name y py)) spos.line X.env = pure true) (hi : SIc X aw tg iter it)
    (hg : ∀ (s : Shared) (H : Hp) (C : Addr) (cl : List (Str × Addr)) (fp : List Addr), SG (X.blk s H scope (compEnvC scope cl C X.env) fp) aw (own.map (·.2)) tg g) (ht : ∀ (s : Shared) (H : Hp) (C : Addr) (cl : List (Str × Addr)) (fp : List Addr), PTs (X.blk s H scope (compEnvC scope cl C X.env) fp) ifs (tT X.K aw c))
    (he : ∀ (s : Shared) (H : Hp) (C : Addr) (cl : List (Str × Addr)) (fp : List Addr), SE (X.blk s H scope (compEnvC scope cl C X.env) fp) aw elt m) (hs : ∀ x, foldedSetIterable iter X.env x = pure x := by intro _; rfl) :
    SS X aw (.Assign [.Name y py] (.ListComp elt [⟨tg, iter, ifs, 0⟩] scope pos) spos) (sAsg (eLc it (own.map (·.2)) g c m) (mgName i)) := ps_to (ps_setLc hc hN hy hyl hsw hi ok hg ht he hs) fun Dn σ H => by
  rintro ⟨G, B, ρ, P, o, hs, k1, k2, k3, k4⟩
  refine lc_reads (X := X) σ H _ ⟨G, B, ρ, _, o, hs, fun v H1 d e1 w1 r1 q1 => ?_⟩
  exact k1 _ H1 _ B ((o.grow e1 w1).set r1 i) (cut_ext e1) q1
end


/-! ### constants of the module -/
def Kst (K : PySem.W.Frag) (mg : Str → Option Value) (x : Str) (d : D) : Prop := ∃ v u, mg x = some u ∧ RelV v u ∧ ∀ aw H, Rp K aw H v d
theorem se_glob {X : Cx} {aw : Option Addr} {x : Str} {pos : Pos} {d : D} (h : Kst X.K X.mg x d) (hg : Gl X x) (hd : (x == ("__debug__" : Str)) = false := by decide) : SE X aw (.Name x pos) (eC d) := by
  obtain ⟨v, u, h1, h2, h3⟩ := h
  exact se_c (pe_glob hg h1 h2 hd) fun H => h3 aw H
theorem kst_pair {K : PySem.W.Frag} {mg : Str → Option Value} {x : Str} {c : Addr} {i j : Int} {t u : Tok} {dd : Option Addr} {n : Nat} {sl : Array (Option Value)} (hm : mg x = some (.ref c)) (hk : K.lookup c = some ⟨.type "tuple", dd, .seq #[.int i t, .int j u] n, sl⟩) : Kst K mg x (.tuple [.int i, .int j]) :=
  ⟨.ref c, _, hm, rfl, fun aw H => .tup (xs := [.int i, .int j]) (.inr ⟨_, _, _, hk, rfl, rfl, (show 2 ≤ sizeLine by decide), .cons ⟨t, rfl⟩ (.cons ⟨u, rfl⟩ .nil)⟩) (.cons (.int i) (.cons (.int j) .nil))⟩

/-! ### a def by its body -/
def env0 (nl : Nat) (ds : List D) : En := ds.map .va ++ List.replicate (nl - ds.length) .no
def bodyF (nl : Nat) (s : MS) : List D → M D := fun ds Q => s (env0 nl ds) { nx := fun _ => Q .none, rt := Q, bk := fun _ => False, ct := fun _ => False }
section
variable {P : Program} {w : PySem.World} {K : PySem.W.Frag} {mg : Str → Option Value} {base : Heap}
theorem ok_start {aw : Option Addr} {H : Hp} {B : List Addr} {vs : List V} {ds : List D} {N : List Str} (w : World aw (cut H B)) (hB : ∀ p ∈ B, ∃ xs, H p = some (.lst xs)) (r : RpA K aw (cut H B) vs ds) : Ok K aw ⟨H, B⟩ B (L2.start N vs) (env0 N.length ds) H := by
  have hl := r.length
  refine ⟨.refl _ _, w, fun _ h => h, hB, by simp [L2.start, env0, hl], fun i s hs => ?_, fun i j p as es h1 _ _ _ => ?_⟩
  · unfold env0 at hs
    unfold L2.start
    by_cases hi : i < ds.length
    · rw [List.getElem?_append_left (by simpa using hi), List.getElem?_map] at hs
      cases e : ds[i]? with
      | none => rw [e] at hs; cases hs
      | some d =>
        rw [e] at hs
        cases hs
        obtain ⟨v, hv, rv⟩ := r.get e
        refine ⟨v, ?_, rv⟩
        rw [List.getElem?_append_left (by simpa [hl] using hi), List.getElem?_map, hv]
        rfl
    · rw [List.getElem?_append_right (by simpa using hi), List.getElem?_replicate] at hs
      split at hs
      · cases hs; trivial
      · cases hs
  · exfalso
    unfold env0 at h1
    by_cases hi : i < ds.length
    · rw [List.getElem?_append_left (by simpa using hi), List.getElem?_map] at h1
      cases e : ds[i]? with
      | none => rw [e] at h1; cases h1
      | some d => rw [e] at h1; cases h1
    · rw [List.getElem?_append_right (by simpa using hi), List.getElem?_replicate] at h1
      split at h1 <;> cases h1
theorem df_of {x qual : Str} {st : Stmt} {f : Addr} {fd : FuncData} {N ps : List Str} {n k nl : Nat} {s : MS} (F : Fun K x qual st f fd) (S : FnScope N ps (defScope st)) (hn : ps.length = n) (hnl : N.length = nl) (gm : mg x = some (.ref f)) (b : Binds K fd ps [])
    (hb : ∀ (cdv : Value) (A : Around) (outer : List Env) (s0 : Shared) (H : Hp) (E : XK) (aw : Option Addr), Room k (A.deeper (envOfC qual (defScope st) s0.heap.objs.size f cdv)) → SSs (cxOf CX0 P w K mg base N qual (defScope st) f cdv A outer s0 H E).nox aw (defBody st) s) :
    Df P w K mg base x n (k + 1) (bodyF nl s) := by
  subst hn hnl
  refine ⟨f, fd, ps, rfl, gm, F.kp, b, F.ok S (fun vs H Q E h => ?_) (fun cdv A outer s0 H vs Q E hr h => ?_)⟩
  · obtain ⟨_, _, _, _, h, _⟩ := h
    exact h
  · obtain ⟨aw, B, ds, P', hl, wl, hB, r, hF, q⟩ := h
    refine ⟨_, hb cdv A outer s0 H E aw hr, ⟨H, B⟩, B, env0 N.length ds, _, ok_start wl hB r, hF, fun σ' H' ρ' B' o' e' q' => ?_, fun v H' d e' w' r' q' => q v H' d e' w' r' q', fun _ _ _ _ _ _ z => z.elim, fun _ _ _ _ _ _ z => z.elim⟩
    obtain ⟨w2, r2⟩ := ret_less o' (.non)
    exact q .non H' .none o'.ext w2 r2 q'
end


def fSubB : D → D → M D := fun x y Q => match x, y with
  | .bool a, .bool b => Q (.int ((if a = true then 1 else 0) - (if b = true then 1 else 0)))
  | _, _ => False
def intsOf : List D → Option (List Int)
  | [] => some []
  | .int b :: ds => (intsOf ds).map (b :: ·)
  | _ => none
/-- an int in a tuple of ints -/
def fInT (neg : Bool) : D → D → M D := fun x y Q => match x, y with
  | .int i, .tuple ds => match intsOf ds with
    | some js => Q (.bool (if neg then !(js.any fun j => j == i) else js.any fun j => j == i))
    | none => False
  | _, _ => False
section
variable {X : Cx} {K : PySem.W.Frag} {aw : Option Addr} {a b : Expr} {m n : En → M D} {pos : Pos}
theorem op_subB : OpR X (binaryOp .Sub) (fun x y H Q => ∃ i j, x = .bl i ∧ y = .bl j ∧ Q (.int ((if i = true then 1 else 0) - (if j = true then 1 else 0))) H) := by
  intro pins s σ H x y v u Q I rx ry h
  obtain ⟨i, k, rfl, rfl, q⟩ := h
  cases rx
  cases ry
  exact sub_bool ⟨.int _, H, I.tok _, ⟨_, rfl⟩, by cases i <;> cases k <;> exact q⟩
theorem ok_subB : OpOk K aw (fun x y H Q => ∃ i j, x = .bl i ∧ y = .bl j ∧ Q (.int ((if i = true then 1 else 0) - (if j = true then 1 else 0))) H) fSubB := by
  intro H B x y d e Q R w hB rx ry q k
  unfold fSubB at q
  split at q
  · cases rx
    cases ry
    exact ⟨_, _, rfl, rfl, k _ H _ (.refl _ _) w (.int _) q⟩
  · cases q
theorem se_subB (ha : SE X aw a m) (hb : SE X aw b n) : SE X aw (.BinOp a .Sub b pos) (eOp fSubB m n) := se_op op_subB ok_subB ha hb
theorem ints_rp {H : Hp} : ∀ {ds : List D} {bs : List Int} {xs : List V}, intsOf ds = some bs → RpA K aw H xs ds → xs = bs.map V.int
  | [], _, _, e, r => by cases r; cases e; rfl
  | .int b :: ds, bs, _, e, r => by
    unfold intsOf at e
    cases q : intsOf ds with
    | none => rw [q] at e; cases e
    | some cs =>
      rw [q] at e
      cases e
      cases r with
      | cons r0 rr =>
      cases r0
      rw [ints_rp q rr]
      rfl
  | .none :: _, _, _, e, _ => by cases e
  | .bool _ :: _, _, _, e, _ => by cases e
  | .str _ :: _, _, _, e, _ => by cases e
  | .list _ :: _, _, _, e, _ => by cases e
  | .tuple _ :: _, _, _, e, _ => by cases e
  | .dict _ :: _, _, _, e, _ => by cases e
theorem inV_ints (i : Int) : ∀ js : List Int, inV (.int i) (js.map V.int) = js.any fun j => j == i
  | [] => rfl
  | j :: js => by
    have h := inV_ints i js
    unfold inV at h ⊢
    rw [List.map_cons, List.any_cons, List.any_cons, h]
    rfl
theorem flat_ints : ∀ js : List Int, (js.map V.int).all flatV = true
  | [] => rfl
  | _ :: js => by rw [List.map_cons, List.all_cons, flat_ints js]; rfl
theorem ok_inT {neg : Bool} : OpOk K aw (rIn K neg) (fInT neg) := by
  intro H B x y d e Q R w hB rx ry q k
  unfold fInT at q
  split at q
  · rename_i i ds
    split at q
    · rename_i js hj
      cases rx
      cases ry with
      | tup h1 r1 =>
      have e := ints_rp hj r1
      subst e
      exact ⟨_, _, rfl, .inr (sqT_less h1), rfl, flat_ints js, by rw [inV_ints]; exact k _ H _ (.refl _ _) w (.bl _) q⟩
    · cases q
  · cases q
theorem se_inT (ha : SE X aw a m) (hb : SE X aw b n) (hm : behindInMarks .In b = false := by with_unfolding_all rfl) : SE X aw (.Compare a [.In] [b] pos) (eOp (fInT false) m n) := se_cmp op_in_seq ok_inT ha hb hm
theorem se_notInT (ha : SE X aw a m) (hb : SE X aw b n) (hm : behindInMarks .NotIn b = false := by with_unfolding_all rfl) : SE X aw (.Compare a [.NotIn] [b] pos) (eOp (fInT true) m n) := se_cmp op_notIn_seq ok_inT ha hb hm
theorem st_inT (ha : SE X aw a m) (hb : SE X aw b n) (hm : behindInMarks .In b = false := by with_unfolding_all rfl) : ST X aw (.Compare a [.In] [b] pos) (eT (eOp (fInT false) m n)) := st_op op_in_seq ok_inT ha hb hm
theorem st_notInT (ha : SE X aw a m) (hb : SE X aw b n) (hm : behindInMarks .NotIn b = false := by with_unfolding_all rfl) : ST X aw (.Compare a [.NotIn] [b] pos) (eT (eOp (fInT true) m n)) := st_op op_notIn_seq ok_inT ha hb hm
end

/-! ### a name of one's own: name = e -/
section
variable {X : Cx} {aw : Option Addr} {e : Expr} {m : En → M D} {pos : Pos} {i : Nat}
theorem ss_set {x : Str} {p : Pos} (hN : X.N.Nodup) (hi : X.N[i]? = some x) (hx : Loc X.env.scope x) (he : SE X aw e m) (hs : swapsWith e (some (.Name x p)) pos.line X.env = pure false := by rfl) (hf : X.fn x = true ∨ X.env.scope.names.lookup x = some .local := by first | exact .inl rfl | exact .inr rfl | assumption) : SS X aw (.Assign [.Name x p] e pos) (sAsg m (mgName i)) := ps_to (ps_set hN hi hx he hs hf) fun Dn σ H => by
  rintro ⟨G, B, ρ, P, o, hs, k1, k2, k3, k4⟩
  exact ⟨G, B, ρ, _, o, hs, fun v H1 d e1 w1 r1 q1 => k1 _ H1 _ B ((o.grow e1 w1).set r1 i) (cut_ext e1) q1⟩
/-- name op= e -/
def sAug (i : Nat) (f : D → D → M D) (m : En → M D) : MS := fun ρ P => match ρ[i]? with
  | some (.va x) => m ρ fun y => f x y fun z => P.nx (ρ.set i (.va z))
  | _ => False
theorem ss_aug {x : Str} {p : Pos} {op : Operator} {r : R2} {f : D → D → M D} (ho : OpR X (inplaceOp op) r) (h : OpOk X.K aw r f) (hN : X.N.Nodup) (hi : X.N[i]? = some x) (hx : Loc X.env.scope x) (he : SE X aw e m) (hf : X.fn x = true ∨ X.env.scope.names.lookup x = some .local := by first | exact .inl rfl | exact .inr rfl | assumption) :
    SS X aw (.AugAssign (.Name x p) op e pos) (sAug i f m) := ps_to (ps_aug (ti := r) hN hi hx he (fun pins s σ H x y v u Q I rx ry q => ho pins s σ H x y v u Q I rx ry q) hf) fun Dn σ H => by
  rintro ⟨G, B, ρ, P, o, hs, k1, k2, k3, k4⟩
  unfold sAug at hs
  split at hs
  · rename_i dx hd
    obtain ⟨v, e1, r1⟩ := o.get hd
    refine ⟨v, e1, G, B, ρ, _, o, hs, fun y H1 dy e2 w2 r2 q2 => ?_⟩
    have o1 := o.grow e2 w2
    exact h H1 B v y dx dy _ _ w2 o1.own (r1.ext o.wld.ne (cut_ext e2)) r2 q2 fun z H2 dz e3 w3 r3 q3 => k1 _ H2 _ B ((o1.grow e3 w3).set r3 i) (cut_ext (e2.trans e3)) q3
  · cases hs
end


/-! ### two names at once, the first a new own list -/
def sParOwn (i j : Nat) (m : En → M D) : MS := fun ρ P => m ρ fun d => i ≠ j ∧ P.nx ((ρ.set j (.va d)).set i (.ow []))
section
variable {X : Cx} {aw : Option Addr} {e : Expr} {m : En → M D} {pl : Pos} {st : Stmt} {i j : Nat}
theorem ss_parOwn (h : ∀ ta, PA X [.List [] pl, e] ta → PS X st (tPar i j ta)) (he : SE X aw e m) (hs : starEach [.List [] pl, e] X.env = (false, eval (.List [] pl) X.env) :: starEach [e] X.env := by rfl) (hs2 : starEach [e] X.env = (false, eval e X.env) :: starEach [] X.env := by rfl) : SS X aw st (sParOwn i j m) :=
  ps_to (h _ (pa_cons (pe_lst pa_nil) (pa_cons he pa_nil hs2) hs)) fun Dn σ H => by
    rintro ⟨G, B, ρ, P, o, hs, k1, k2, k3, k4⟩
    refine ⟨Nat.zero_le _, fun p hp => ?_⟩
    -- the list stands, in no slot yet
    have o0 := o.made hp (xs := []) (ds := []) .nil ρ.length
    have e0 : ρ.set ρ.length (Sl.ow []) = ρ := List.set_eq_of_length_le (Nat.le_refl _)
    have e1 : σ.set ρ.length (some (V.ref p)) = σ := List.set_eq_of_length_le (by rw [o.len]; exact Nat.le_refl _)
    rw [e0, e1] at o0
    refine ⟨G, p :: B, ρ, _, o0, hs, fun v H1 d e w r q => ⟨_, _, rfl, ?_⟩⟩
    obtain ⟨nij, q⟩ := q
    have o1 := (o0.grow e w).set r j
    have hl : H1 p = some (.lst []) := e.ap p _ fx_lst upd_same
    have ec : Ext aw (cut H B) (cut H1 (p :: B)) := by
      have := cut_ext (B := p :: B) e
      rw [cut_new hp] at this
      exact this
    have npB : p ∉ B := fun z => by
      obtain ⟨ys, h⟩ := o.own p z
      rw [hp] at h; cases h
    have npaw : some p ≠ aw := fun z => by
      obtain ⟨kvs, h⟩ := o.wld.ne p z.symm
      have := (cut_some h).1
      rw [hp] at this; cases this
    have h0 : G.H0 p = none := by
      cases q : G.H0 p with
      | none => rfl
      | some u => have := o.ext.ap p u (fx_ne npaw) q; rw [hp] at this; cases this
    have nc : p ∉ G.Bc := fun z => npB (o.sub p z)
    rw [List.set_comm _ _ nij]
    refine k1 _ H1 _ (p :: B) ⟨o1.ext, o1.wld, o1.sub, o1.own, by simp [o1.len], fun k s hk => ?_, fun k l q es fs h1 h2 h3 h4 => ?_⟩ ec q
    · by_cases ek : i = k
      · subst ek
        by_cases hi : i < (ρ.set j (Sl.va d)).length
        · rw [List.getElem?_set_self hi] at hk
          cases hk
          rw [List.getElem?_set_self (by rw [o1.len]; exact hi)]
          exact ⟨p, [], rfl, List.mem_cons_self, h0, nc, hl, .nil⟩
        · rw [List.getElem?_eq_none (by simpa using hi)] at hk; cases hk
      · rw [List.getElem?_set_ne ek] at hk
        rw [List.getElem?_set_ne ek]
        exact o1.env k s hk
    · have other : ∀ {n : Nat} {l : List D}, i ≠ n → (ρ.set j (Sl.va d))[n]? = some (Sl.ow l) → (σ.set j (some v))[n]? = some (some (V.ref p)) → False := fun {n l} hn a b => by
        obtain ⟨nj, a⟩ := set_ow (fun _ z => by cases z) a
        rw [List.getElem?_set_ne nj] at b
        obtain ⟨p', ys, e2, hp', _⟩ := o.getO a
        rw [b] at e2
        have e4 : p = p' := by injection e2 with h3; injection h3 with h3; injection h3
        exact npB (by rw [e4]; exact hp')
      by_cases ek : i = k
      · by_cases el : i = l
        · rw [← ek, ← el]
        · exfalso
          subst ek
          rw [List.getElem?_set_ne el] at h2 h4
          have hi : i < (σ.set j (some v)).length := by
            by_cases hi : i < (ρ.set j (Sl.va d)).length
            · rw [o1.len]; exact hi
            · rw [List.getElem?_eq_none (by simpa using hi)] at h1; cases h1
          rw [List.getElem?_set_self hi] at h3
          have e3 : p = q := by injection h3 with h3; injection h3 with h3; injection h3
          exact other el h2 (by rw [e3]; exact h4)
      · by_cases el : i = l
        · exfalso
          subst el
          rw [List.getElem?_set_ne ek] at h1 h3
          have hi : i < (σ.set j (some v)).length := by
            by_cases hi : i < (ρ.set j (Sl.va d)).length
            · rw [o1.len]; exact hi
            · rw [List.getElem?_eq_none (by simpa using hi)] at h2; cases h2
          rw [List.getElem?_set_self hi] at h4
          have e3 : p = q := by injection h4 with h3; injection h3 with h3; injection h3
          exact other ek h1 (by rw [e3]; exact h3)
        · rw [List.getElem?_set_ne ek] at h1 h3
          rw [List.getElem?_set_ne el] at h2 h4
          exact o1.apart k l q es fs h1 h2 h3 h4
theorem iop_mulW : OpR X (inplaceOp .Mult) (rI CMulW fun i j => .int (i * j)) := opI fun _ _ _ _ _ _ _ hc q => imul_int q hc.ok
end

/-! ### the draws -/
/-- any int from 0 on below a number -/
def F_next : List D → M D := fun ds Q => match ds with
  | [.dict [], .int m] => 0 < m ∧ ∀ k, 0 ≤ k → k < m → Q (.int k)
  | _ => False
theorem w_put (ld : Addr) (n m : Int) : putK [((.inr "draws" : Key), V.ref ld), (.inr "at", V.int n)] (.inr "at") (V.int m) = [(.inr "draws", .ref ld), (.inr "at", .int m)] := by
  have h : ¬ ((.inr "draws" : Key) = .inr "at") := by decide +kernel
  simp [putK, h]
theorem w_at (ld : Addr) (n : Int) : valV [((.inr "draws" : Key), V.ref ld), (.inr "at", V.int n)] (.inr "at") = some (V.int n) := by
  have h : ¬ ((.inr "draws" : Key) = .inr "at") := by decide +kernel
  rw [valV_neg h, valV_pos rfl]
theorem w_draws (ld : Addr) (n : Int) : valV [((.inr "draws" : Key), V.ref ld), (.inr "at", V.int n)] (.inr "draws") = some (V.ref ld) := valV_pos rfl
/-- the world behind one more draw -/
theorem world_step {a ld : Addr} {B : List Addr} {H : Hp} {n : Int} {ns : List Int} (h1 : cut H B a = some (.dK [(.inr "draws", .ref ld), (.inr "at", .int n)])) (h2 : cut H B ld = some (.lst (ns.map V.int))) (h0 : 0 ≤ n) (hl : ns.length ≤ 100000) :
    Ext (some a) H (upd H a (.dK [(.inr "draws", .ref ld), (.inr "at", .int (n + 1))])) ∧ World (some a) (cut (upd H a (.dK [(.inr "draws", .ref ld), (.inr "at", .int (n + 1))])) B) := by
  obtain ⟨a1, a2⟩ := cut_some h1
  obtain ⟨b1, b2⟩ := cut_some h2
  have ne : ld ≠ a := fun z => by rw [z, a1] at b1; cases b1
  refine ⟨⟨fun b o f h => ?_, fun x ex kvs _ => ?_⟩, fun x ex => ?_⟩
  · by_cases e : b = a
    · rw [e, a1] at h
      exact absurd (Option.some.inj h).symm (f (by rw [e]) _)
    · rw [upd_ne e]; exact h
  · cases ex
    exact ⟨_, upd_same⟩
  · cases ex
    exact ⟨ld, n + 1, ns, cut_of upd_same a2, cut_of (by rw [upd_ne ne]; exact b1) b2, by omega, hl⟩


/-! ### the law's own def -/
def tSE (K : PySem.W.Frag) (s : MS) : TS := fun Dn σ H => ∃ aw, tS K aw s Dn σ H
theorem sse {X : Cx} {sts : List Stmt} {s : MS} (h : ∀ aw, SSs X aw sts s) : PSs X sts (tSE X.K s) := ⟨fun pins st σ H D I q => by
  obtain ⟨aw, q⟩ := q
  exact (h aw).run pins st σ H D I q⟩
abbrev scr (ns : List Int) : D := .dict [(.none, .list (ns.map PyData.int))]
def spLaw (K : PySem.W.Frag) : Sp := fun vs H Q _ => ∃ (a : Addr) (ns : List Int), vs = [.ref a] ∧ ScL K H a (ns.map V.int) ∧ ns.length ≤ 63 ∧ ∀ H', Q (.bl true) H'
theorem scl_of {K : PySem.W.Frag} {H : Hp} {a : Addr} {xs : List V} (o : Only H) (h : SqL K H a xs) : ScL K H a xs := by
  rcases h with (h | ⟨u, h⟩) | h
  · rcases o a with e | ⟨u, ys, e⟩
    · rw [h] at e; cases e
    · rw [h] at e; cases e
  · exact .inl ⟨u, h⟩
  · exact .inr h
/-- the draws: ints, not too many -/
def IsDraws (d : D) : Prop := ∃ ms : List Int, d = .list (ms.map PyData.int) ∧ ms.length ≤ 100000
theorem rp_ints {K : PySem.W.Frag} {aw : Option Addr} {H : Hp} : ∀ {ms : List Int} {xs : List V}, RpA K aw H xs (ms.map PyData.int) → xs = ms.map V.int
  | [], _, r => by cases r; rfl
  | m :: ms, _, r => by
    cases r with
    | cons r0 rr =>
    cases r0
    rw [rp_ints rr]
    rfl
theorem merge_w (ld : Addr) : mergeK [] [((.inr "draws" : Key), V.ref ld), (.inr "at", V.int 0)] = [(.inr "draws", .ref ld), (.inr "at", .int 0)] := by
  have h : ¬ ((.inr "draws" : Key) = .inr "at") := by decide +kernel
  simp [mergeK, putK, h]
/-- the reading of: w = {"draws": .., "at": 0}, then the rest -/
theorem law_reads {K : PySem.W.Frag} {H : Hp} {a : Addr} {ns : List Int} {N : List Str} {m : En → M D} {s : MS} {Q : VK} (hN : 2 ≤ N.length) (hS : ScL K H a (ns.map V.int)) (hd : m (env0 N.length [scr ns]) IsDraws)
    (hs : s (env0 N.length [scr ns, .dict []]) { nx := fun _ => False, rt := fun d => d = .bool true, bk := fun _ => False, ct := fun _ => False }) (q : ∀ H', Q (.bl true) H') :
    tSeq (tAsg (tDisp [(tC (.str "draws"), tM K none m), (tC (.str "at"), tC (.int 0))]) (gName 1)) (tSE K s) { nx := fun _ H' => Q .non H', rt := Q } (L2.start N [.ref a]) H := by
  intro p hp
  have hr : RpA K none (cut (upd H p (.dK [])) []) [.ref a] [scr ns] := by
    rw [cut_nil]
    exact .cons (.scr (hS.ext (Ext.new (aw := none) hp))) .nil
  have o1 : Ok K none ⟨upd H p (.dK []), []⟩ [] (L2.start N [.ref a]) (env0 N.length [scr ns]) (upd H p (.dK [])) := ok_start (fun _ e => nomatch e) (fun _ z => by cases z) hr
  refine ⟨_, [], _, _, o1, hd, fun v H2 d e2 w2 r2 q2 => ?_⟩
  obtain ⟨ms, rfl, hl⟩ := q2
  rw [cut_nil] at r2
  cases r2 with
  | lst h2 rr =>
  rename_i ld xs
  have ex := rp_ints rr
  subst ex
  have hp2 : H2 p = some (.dK []) := e2.ap p _ (fun z => nomatch z) upd_same
  refine ⟨hp2, [(.inr "draws", .ref ld), (.inr "at", .int 0)], rfl, (show 2 ≤ 15 by decide), ?_⟩
  rw [merge_w]
  have ne : ld ≠ p := fun z => by rw [z, hp2] at h2; cases h2
  have hp3 : (upd H2 p (.dK [(.inr "draws", .ref ld), (.inr "at", .int 0)])) p = some (.dK [(.inr "draws", .ref ld), (.inr "at", .int 0)]) := upd_same
  have w3 : World (some p) (cut (upd H2 p (.dK [(.inr "draws", .ref ld), (.inr "at", .int 0)])) []) := by
    rw [cut_nil]
    intro x ex
    cases ex
    exact ⟨ld, 0, ms, hp3, by rw [upd_ne ne]; exact h2, Int.le_refl 0, hl⟩
  have hS3 : ScL K (upd H2 p (.dK [(.inr "draws", .ref ld), (.inr "at", .int 0)])) a (ns.map V.int) := by
    have := (hS.ext (Ext.new (aw := none) hp)).ext e2
    rcases this with ⟨o, h⟩ | h
    · exact .inl ⟨o, by rw [upd_ne fun z => by rw [z, hp2] at h; cases h]; exact h⟩
    · exact .inr h
  have r3 : RpA K (some p) (cut (upd H2 p (.dK [(.inr "draws", .ref ld), (.inr "at", .int 0)])) []) [.ref a, .ref p] [scr ns, .dict []] := by
    rw [cut_nil]
    exact .cons (.scr hS3) (.cons (.wld rfl hp3) .nil)
  have o3 := ok_start (N := N) w3 (fun _ z => by cases z) r3
  have es : (L2.start N [V.ref a]).set 1 (some (V.ref p)) = L2.start N [V.ref a, V.ref p] := by
    unfold L2.start
    obtain ⟨n, hn⟩ : ∃ n, N.length = n + 2 := ⟨N.length - 2, by omega⟩
    rw [hn]
    show (some (V.ref a) :: List.replicate (n + 2 - 1) none).set 1 (some (V.ref p)) = some (V.ref a) :: some (V.ref p) :: List.replicate (n + 2 - 2) none
    have e1 : n + 2 - 1 = n + 1 := by omega
    have e2 : n + 2 - 2 = n := by omega
    rw [e1, e2, List.replicate_succ]
    rfl
  show tSE K s _ ((L2.start N [V.ref a]).set 1 (some (V.ref p))) _
  rw [es]
  refine ⟨some p, ⟨_, []⟩, [], _, _, o3, hs, fun _ _ _ _ _ _ z => z.elim, fun v H' d _ _ r q' => ?_, fun _ _ _ _ _ _ z => z.elim, fun _ _ _ _ _ _ z => z.elim⟩
  subst q'
  cases r
  exact q H'


/-! ### sorted(xs) of data -/
theorem sorted_seqD {prog : Program} {w : PySem.World} {A : Around} {E : Value → Shared → Prop} {s : Shared} {β : Type} {vs : List Value} {bs : List β} {enc : β → PyData} {R : Value → β → Prop} {l : Addr} {T : String} {o : Obj} {n : Nat} {Q : Value → Shared → Prop}
    (hT : T = "list" ∨ T = "tuple") (ho : s.heap.get? l = some o) (hc : o.cls = .type T) (hd : o.data = .seq vs.toArray n)
    (e : PySem.W.EachIs R vs bs) (er : PySem.W.EachIs (fun v b => ∃ as, Reads s.heap v (enc b) as) vs bs) (hal : PySem.W.AllAlike (bs.map enc)) (hk : PySem.W.Sortable (bs.map enc)) (hL : bs.length ≤ sizeLine)
    (hu : ∀ b, b ∈ bs → A.units + 2 + (enc b).depth < cLine)
    (h : ∀ out h' ep p, PySem.W.EachIs R out (bs.mergeSort (PySem.W.dataLe false enc)) → s.heap.get? p = none → (∀ b o, s.heap.get? b = some o → h'.get? b = some o) → h'.get? p = some (seqObj "list" out.toArray ep) → Q (.ref p) { s with heap := h' }) :
    wpAny (model prog w) A (call (.builtin "sorted") [.ref l]) Q E s := by
  have hl : vs.length = bs.length := e.length
  refine Calls.call_function_entry kind_sorted plain_sorted entry_sorted (args_sorted1 _) ?_
  unfold Builtin.«sorted»
  refine wpAny_bind (m := checkCount "sorted" 1 1 _) (wpAny_pure ?_)
  refine wpAny_bind (wpAny_collect_seq l hT ho hc hd (fun h1 k1 => ?_) (by rw [List.size_toArray, hl]; exact hL))
  rw [List.toList_toArray]
  refine wpAny_bind (wpAny_newList ?_ (by rw [hl]; exact hL))
  have hp0 : s.heap.get? h1.objs.size = none := by
    cases q : s.heap.get? h1.objs.size with
    | none => rfl
    | some u => exact absurd (Heap.lt_size (k1 _ _ q)) (Nat.lt_irrefl _)
  have hoL : (h1.push (seqObj "list" vs.toArray 0)).get? h1.objs.size = some (seqObj "list" vs.toArray 0) := Heap.get?_push_size _ rfl
  have keep : ∀ b o, s.heap.get? b = some o → b ≠ h1.objs.size ∧ (h1.push (seqObj "list" vs.toArray 0)).get? b = some o := fun b o q =>
    ⟨Nat.ne_of_lt (Heap.lt_size (k1 b o q)), Heap.get?_push_of_some _ (k1 b o q)⟩
  have er' : PySem.W.EachIs (fun v b => ∃ as, Reads (PySem.W.sortingHeap (h1.push (seqObj "list" vs.toArray 0)) h1.objs.size vs) v (enc b) as) vs bs := er.mono fun _ _ ⟨as, r⟩ => ⟨as, PyProof.Rows.Reads.keeps (fun b o q => PySem.W.sortingHeap_old (keep b o q).1 (keep b o q).2) r⟩
  refine wpAny_bind (wpAny_holding (wpAny_call_entry slot_list_sort ⟨_, hoL, rfl⟩ entry_list_sort
    (PySem.W.list_sort_vals (s := { s with heap := h1.push (seqObj "list" vs.toArray 0) }) (κ := PySem.W.dataKind (PySem.W.sortingHeap (h1.push (seqObj "list" vs.toArray 0)) h1.objs.size vs) (bs.map enc)) hoL
      (PySem.W.SortsAt.data (s := { s with heap := PySem.W.sortingHeap (h1.push (seqObj "list" vs.toArray 0)) h1.objs.size vs }) (PySem.W.each_map (R := fun v d => ∃ as, Reads (PySem.W.sortingHeap (h1.push (seqObj "list" vs.toArray 0)) h1.objs.size vs) v d as) enc er') hal hk (PySem.W.bound_map hu)) (by rw [hl]; exact hL) ?_) (args_list_sort _)))
  refine ⟨.none, rfl, ?_⟩
  obtain ⟨c, hc2⟩ := sortedHeap_at (vs := vs) (out := (PySem.W.sortVals (PySem.W.dataKind (PySem.W.sortingHeap (h1.push (seqObj "list" vs.toArray 0)) h1.objs.size vs) (bs.map enc)) false vs vs).toArray) hoL
  refine wpAny_pure ⟨_, rfl, h _ _ c h1.objs.size (PySem.W.sortVals_data false e er' hal) hp0 (fun b u q => ?_) hc2⟩
  have hlt := Heap.lt_size (k1 b u q)
  show (sortedHeap (h1.push (seqObj "list" vs.toArray 0)) h1.objs.size vs _).get? b = some u
  rw [sortedHeap_old (Nat.ne_of_lt hlt) (by rw [size_push']; exact Nat.lt_succ_of_lt hlt)]
  exact (keep b u q).2

/-- sorted(xs) of tuples of one kind -/
structure okS (ds : List D) : Prop where
  alike : PySem.W.AllAlike ds
  tup : ∀ d ∈ ds, ∃ x r, d = .tuple (x :: r)
  deep : ∀ d ∈ ds, d.depth ≤ 60
  len : ds.length ≤ 100000
  flat : flatD.flatA ds = true
def fSorted : List D → M D := fun ds Q => match ds with
  | [.list xs] => okS xs ∧ Q (.list (xs.mergeSort (PySem.W.dataLe false id)))
  | [.tuple xs] => okS xs ∧ Q (.list (xs.mergeSort (PySem.W.dataLe false id)))
  | _ => False
def rSortD (K : PySem.W.Frag) : List V → Hp → VK → Prop := fun vs H Q => ∃ (a : Addr) (ds : List D) (xs : List V), vs = [.ref a] ∧ (SqL K H a xs ∨ SqT K H a xs) ∧ DpAll K H xs ds ∧ okS ds ∧
  ∀ (ps : List (V × D)) (p : Addr), ps.Perm (xs.zip ds) → ps.map (·.2) = ds.mergeSort (PySem.W.dataLe false id) → H p = none → Q (.ref p) (upd H p (.lst (ps.map (·.1))))
theorem each_of_dp {X : Cx} {pins : List (Addr × Obj)} {σ : L2.St} {H : Hp} {s : Shared} (I : Inv X pins σ H s) : ∀ {ds : List D} {xs : List V} {us : List Value}, DpAll X.K H xs ds → Vals xs us →
    PySem.W.EachIs (fun u (b : V × D) => RelV b.1 u ∧ Dp X.K H b.1 b.2) us (xs.zip ds)
  | [], _, _, h, r => by cases h; cases r; exact .nil
  | d :: ds, _, _, h, r => by
    cases h with
    | cons h1 h2 =>
    cases r with
    | cons r1 r2 => exact .cons ⟨r1, h1⟩ (each_of_dp I h2 r2)
theorem vals_of_each {K : PySem.W.Frag} {H : Hp} : ∀ {bs : List (V × D)} {us : List Value}, PySem.W.EachIs (fun u (b : V × D) => RelV b.1 u ∧ Dp K H b.1 b.2) us bs → Vals (bs.map (·.1)) us
  | [], _, h => by cases h; exact .nil
  | b :: bs, _, h => by
    cases h with
    | cons h1 h2 => exact .cons h1.1 (vals_of_each h2)
theorem dpAll_len {K : PySem.W.Frag} {H : Hp} : ∀ {ds : List D} {xs : List V}, DpAll K H xs ds → xs.length = ds.length
  | [], _, h => by cases h; rfl
  | d :: ds, _, h => by
    cases h with
    | cons h1 h2 => simp [dpAll_len h2]
theorem zip_snd {α β : Type} : ∀ {xs : List α} {ds : List β}, xs.length = ds.length → (xs.zip ds).map (·.2) = ds
  | [], [], _ => rfl
  | x :: xs, d :: ds, h => by simp at h; simp [zip_snd h]
  | [], _ :: _, h => by simp at h
  | _ :: _, [], h => by simp at h
theorem cr_sortD {X : Cx} {k : Nat} (hr : Room k X.A) : CallR X (.builtin "sorted") (rSortD X.K) := by
  intro pins s σ H vs us Q I r h
  obtain ⟨a, ds, xs, rfl, hs, hd, ok, q⟩ := h
  rw [Vals.ref1 r]
  have hu64 := room64 hr
  obtain ⟨T, o, n, its, hT, ho, hc, hdat, rv⟩ : ∃ (T : String) (o : Obj) (n : Nat) (its : List Value), (T = "list" ∨ T = "tuple") ∧ s.heap.get? a = some o ∧ o.cls = .type T ∧ o.data = .seq its.toArray n ∧ Vals xs its := by
    rcases hs with hs | hs
    · obtain ⟨its, rv, ⟨o, n, ho, hc, _, hdat⟩, _⟩ := I.list hs
      exact ⟨"list", o, n, its, .inl rfl, ho, hc, hdat, rv⟩
    · obtain ⟨its, rv, ⟨o, ho, hc, n, hdat⟩, _⟩ := I.tuple hs
      exact ⟨"tuple", o, n, its, .inr rfl, ho, hc, hdat, rv⟩
  have hz := zip_snd (dpAll_len hd)
  have hlen : (xs.zip ds).length = ds.length := by rw [List.length_zip, dpAll_len hd, Nat.min_self]
  have hmem : ∀ b ∈ xs.zip ds, b.2 ∈ ds := fun b hb => by
    rw [← hz]; exact List.mem_map_of_mem hb
  refine sorted_seqD (R := fun u (b : V × D) => RelV b.1 u ∧ Dp X.K H b.1 b.2) (enc := fun b : V × D => b.2) (bs := xs.zip ds) hT ho hc hdat (each_of_dp I hd rv) ((each_of_dp I hd rv).mono fun u b ⟨h1, h2⟩ => Dp.reads I b.2 b.1 u h2 h1)
    (by rw [hz]; exact ok.alike) (by rw [hz]; exact .inl ok.tup) (by rw [hlen]; exact le_line ok.len) (fun b hb => ?_) fun out h' ep p e2 hp hk hn => ?_
  · have := ok.deep b.2 (hmem b hb)
    omega
  · have hp0 : H p = none := I.hok.gone hp
    have hv := vals_of_each e2
    have hperm : ((xs.zip ds).mergeSort (PySem.W.dataLe false fun b => b.2)).Perm (xs.zip ds) := List.mergeSort_perm _ _
    have hlen2 : (((xs.zip ds).mergeSort (PySem.W.dataLe false fun b => b.2)).map (·.1)).length ≤ sizeLine := by rw [List.length_map, hperm.length_eq, hlen]; exact le_line ok.len
    refine ⟨.ref p, upd H p (.lst (((xs.zip ds).mergeSort (PySem.W.dataLe false fun b => b.2)).map (·.1))), I.laidN (t' := s.toks) hk hp hp0 ⟨hlen2, out, ep, hv, hn⟩, rfl, q _ p hperm ?_ hp0⟩
    have := PySem.W.sort_maps (r := PySem.W.dataLe false fun b : V × D => b.2) (s := PySem.W.dataLe false id) (fun b : V × D => b.2) (l := xs.zip ds) fun a _ b _ => rfl
    rw [this, hz]
section
variable {X : Cx} {K : PySem.W.Frag} {aw : Option Addr} {e a b : Expr} {es : List Expr} {m n : En → M D} {t : En → M (List D)} {p pos apos : Pos}
theorem rpA_of_zip {H : Hp} : ∀ {ds : List D} {xs : List V}, RpA K aw H xs ds → ∀ b ∈ xs.zip ds, Rp K aw H b.1 b.2
  | [], _, r, b, hb => by cases r; simp at hb
  | d :: ds, _, r, b, hb => by
    cases r with
    | cons r0 rr =>
    simp at hb
    rcases hb with rfl | hb
    · exact r0
    · exact rpA_of_zip rr b hb
theorem rpA_map {H : Hp} : ∀ {ps : List (V × D)}, (∀ b ∈ ps, Rp K aw H b.1 b.2) → RpA K aw H (ps.map (·.1)) (ps.map (·.2))
  | [], _ => .nil
  | b :: ps, h => .cons (h b List.mem_cons_self) (rpA_map fun c hc => h c (List.mem_cons_of_mem _ hc))
theorem dpAll_less {H : Hp} {B : List Addr} : ∀ {vs : List V} {ds : List D}, DpAll K (cut H B) vs ds → DpAll K H vs ds
  | _, _, .nil => .nil
  | _, _, .cons h r => .cons (dp_less h) (dpAll_less r)
theorem ok_sorted : ArgOk K aw (rSortD K) fSorted := by
  intro H B xs ds Q R w hB r q k
  unfold fSorted at q
  split at q
  · cases r with
    | cons r0 rr =>
    cases rr
    cases r0 with
    | lst h1 r1 =>
    refine ⟨_, _, _, rfl, .inl (.inl (.inl (cut_some h1).1)), dpAll_less (r1.dp q.1.flat), q.1, fun ps p hperm hps hp => ?_⟩
    refine k _ _ _ (.new hp) (w.fresh hp) (.lst (new_cut hp hB) (rpA_new w hp ?_)) q.2
    rw [← hps]
    exact rpA_map fun b hb => rpA_of_zip r1 b (hperm.mem_iff.mp hb)
  · cases r with
    | cons r0 rr =>
    cases rr
    cases r0 with
    | tup h1 r1 =>
    refine ⟨_, _, _, rfl, .inr (sqT_less h1), dpAll_less (r1.dp q.1.flat), q.1, fun ps p hperm hps hp => ?_⟩
    refine k _ _ _ (.new hp) (w.fresh hp) (.lst (new_cut hp hB) (rpA_new w hp ?_)) q.2
    rw [← hps]
    exact rpA_map fun b hb => rpA_of_zip r1 b (hperm.mem_iff.mp hb)
  · cases q
theorem se_sortedc {k : Nat} (hr : Room k X.A) (hg : Gl X "sorted") (hm : X.mg "sorted" = none) (ha : SA X aw (e :: es) t) (he : starEach (e :: es) X.env = (false, eval e X.env) :: starEach es X.env := by rfl) (hpl : (backTo pos (starEach es X.env)).any (·.1) = false := by rfl) : SE X aw (.Call (.Name "sorted" p) (e :: es) [] pos) (eCall fSorted t) :=
  se_callB (cr_sortD hr) ok_sorted PyProof.Rows.boot_sorted (by decide) (by decide) hg hm ha he hpl

/-! ### xs.count(i) -/
def eCount (m : En → M D) (t : En → M (List D)) : En → M D := fun ρ Q => m ρ fun d => match d with
  | .list xs => t ρ fun ds => match ds with
    | [.int i] => match intsOf xs with
      | some ns => Q (.int (ns.count i : Nat))
      | none => False
    | _ => False
  | _ => False
theorem se_count (ha : SE X aw a m) (hb : SA X aw (e :: es) t) (hbase : attributeBase a "count" X.env (eval a X.env) = eval a X.env := by rfl)
    (hfew : ((backTo pos (starEach (e :: es) X.env)).all (fun x => !x.1) && (backToKw pos (keywordEach [] X.env)).all (fun x => x.1.isSome)
      && decide ((e :: es).length + ([] : List Keyword).length + (if ([] : List Keyword).isEmpty then 0 else 1) < 30)) = true := by rfl)
    (hline : (apos.endLine == pos.line) = true := by rfl) (hs : starEach (e :: es) X.env = (false, eval e X.env) :: starEach es X.env := by rfl) (hplain : (backTo pos (starEach es X.env)).any (·.1) = false := by rfl) :
    SE X aw (.Call (.Attribute a "count" apos) (e :: es) [] pos) (eCount m t) := pe_to (pe_bm PySem.F.plainAttrs_list PySem.F.slot_list_count PySem.F.type_list_count mt_lcount ha hb hbase hfew hline hs hplain) fun σ H R => by
  rintro ⟨G, B, ρ, Q, o, hm, k⟩
  refine ⟨G, B, ρ, _, o, hm, fun v H1 d e1 w1 r1 q1 => ?_⟩
  split at q1
  · rename_i xs
    have r1' := r1
    cases r1' with
    | lst h0 r0 =>
    refine ⟨.inl ⟨rfl, _, .inl (.inl (cut_some h0).1)⟩, G, B, ρ, _, o.grow e1 w1, q1, fun vs H2 ds e2 w2 r2 q2 => ?_⟩
    split at q2
    · split at q2
      · rename_i hi
        have r3 := r1.ext w1.ne (cut_ext e2)
        cases r3 with
        | lst h1 rr =>
        cases r2 with
        | cons ra rn =>
        cases rn
        cases ra
        have := ints_rp hi rr
        subst this
        exact ⟨_, _, _, rfl, rfl, .inl (.inl (cut_some h1).1), k _ H2 _ (e1.trans e2) w2 (.int _) q2⟩
      · cases q2
    · cases q2
  · cases q1

/-! ### a text some times -/
def mulStr (x : Str) (n : Int) : Str := if n < 1 then Str.empty else if (n == 1 || x.length == 0) = true then x else ⟨(List.replicate n.toNat x.cps).foldl (· ++ ·) #[]⟩
def fMulS : D → D → M D := fun x y Q => match x, y with
  | .str z, .int i => -1000 < i ∧ i ≤ 1000 ∧ z.length ≤ 1000 ∧ Q (.str (mulStr z i))
  | _, _ => False
theorem fold_size (cs : Array Nat) : ∀ (n : Nat) (acc : Array Nat), ((List.replicate n cs).foldl (· ++ ·) acc).size = acc.size + n * cs.size
  | 0, acc => by simp
  | n + 1, acc => by
    rw [List.replicate_succ, List.foldl_cons, fold_size cs n, Array.size_append, Nat.succ_mul]
    omega
theorem op_mulS : OpR X (binaryOp .Mult) (fun x y H Q => ∃ z i, x = .str z ∧ y = .int i ∧ -1000 < i ∧ i ≤ 1000 ∧ z.length ≤ 1000 ∧ Q (.str (mulStr z i)) H) := by
  intro pins s σ H x y v u Q I rx ry h
  obtain ⟨z, i, rfl, rfl, h1, h2, h3, q⟩ := h
  obtain ⟨t, rfl⟩ := rx
  obtain ⟨t2, rfl⟩ := ry
  refine PySem.P.mul_str (by
    rw [decide_eq_false (by omega), decide_eq_false (by omega)]
    rfl) (fun a b => ?_) (fun a b => ?_) ?_
  · have hi : 0 < i := by omega
    have h4 : (1000 : Int) ≤ (2 ^ 63 - 1) / i := Int.le_ediv_of_mul_le hi (by omega)
    have h5 : (z.length : Int) ≤ 1000 := by omega
    omega
  · unfold Builtin.Str.tooLong
    refine decide_eq_false ?_
    rw [sizeLine_eq]
    have h4 : i.toNat ≤ 1000 := by omega
    have h5 : z.length * i.toNat ≤ 1000 * 1000 := Nat.mul_le_mul h3 h4
    omega
  · unfold mulStr at q
    split
    · rw [if_pos (by assumption)] at q
      exact ⟨by decide, .str _, H, I.tok _, ⟨_, rfl⟩, q⟩
    · rw [if_neg (by assumption)] at q
      split
      · rw [if_pos (by assumption)] at q
        exact ⟨.str _, H, I, ⟨_, rfl⟩, q⟩
      · rw [if_neg (by assumption)] at q
        refine ⟨?_, .str _, H, I.tok _, ⟨_, rfl⟩, q⟩
        show (List.foldl (· ++ ·) #[] _).size ≤ sizeLine
        rw [fold_size, sizeLine_eq]
        have h4 : i.toNat ≤ 1000 := by omega
        have h5 : i.toNat * z.cps.size ≤ 1000 * 1000 := Nat.mul_le_mul h4 h3
        simp
        omega
theorem ok_mulS : OpOk K aw (fun x y H Q => ∃ z i, x = .str z ∧ y = .int i ∧ -1000 < i ∧ i ≤ 1000 ∧ z.length ≤ 1000 ∧ Q (.str (mulStr z i)) H) fMulS := by
  intro H B x y d e Q R w hB rx ry q k
  unfold fMulS at q
  split at q
  · cases rx
    cases ry
    exact ⟨_, _, rfl, rfl, q.1, q.2.1, q.2.2.1, k _ H _ (.refl _ _) w (.str _) q.2.2.2⟩
  · cases q
theorem se_mulS (ha : SE X aw a m) (hb : SE X aw b n) : SE X aw (.BinOp a .Mult b pos) (eOp fMulS m n) := se_op op_mulS ok_mulS ha hb

/-! ### in a tuple of data -/
def fInTD (neg : Bool) : D → D → M D := fun x y Q => match y with
  | .tuple ds => okD x ∧ okD (.tuple ds) ∧ Q (.bool (if neg then !(ds.any fun z => PyData.eqv z x) else ds.any fun z => PyData.eqv z x))
  | _ => False
def rInTD (K : PySem.W.Frag) (neg : Bool) : R2 := fun x y H Q => ∃ d ds, Dp K H x d ∧ Dp K H y (.tuple ds) ∧ SeqAt.shaped d = true ∧ SeqAt.shaped (.tuple ds) = true ∧ Q (.bl (if neg then !(ds.any fun z => PyData.eqv z d) else ds.any fun z => PyData.eqv z d)) H
theorem op_inTD {neg : Bool} (hu : X.A.units + 65 < cLine) : OpR X (compareOp (if neg = true then .NotIn else .In)) (rInTD X.K neg) := by
  intro pins s σ H x y v u Q I rx ry h
  obtain ⟨d, ds, hd, he, sd, se, q⟩ := h
  obtain ⟨as, r1⟩ := Dp.reads I d x v hd rx
  obtain ⟨bs, r2⟩ := Dp.reads I (.tuple ds) y u he ry
  cases neg with
  | false => exact SeqAt.in_tuple_reads r2 r1 (SeqAt.canLay_of_shaped se) (SeqAt.canLay_of_shaped sd) (room_in_shaped sd hu) ⟨.bl _, H, I, rfl, q⟩
  | true => exact SeqAt.notIn_tuple_reads r2 r1 (SeqAt.canLay_of_shaped se) (SeqAt.canLay_of_shaped sd) (room_in_shaped sd hu) ⟨.bl _, H, I, rfl, q⟩
theorem ok_inTD {neg : Bool} : OpOk K aw (rInTD K neg) (fInTD neg) := by
  intro H B x y d e Q R w _ rx ry q k
  unfold fInTD at q
  split at q
  · rename_i ds
    exact ⟨d, ds, dp_less (rx.dp q.1.1), dp_less (ry.dp q.2.1.1), q.1.2, q.2.1.2, k _ H _ (.refl _ _) w (.bl _) q.2.2⟩
  · cases q
theorem se_inTD {k : Nat} (hr : Room k X.A) (ha : SE X aw a m) (hb : SE X aw b n) (hm : behindInMarks .In b = false := by with_unfolding_all rfl) : SE X aw (.Compare a [.In] [b] pos) (eOp (fInTD false) m n) := se_cmp (op_inTD (neg := false) (room65 hr)) ok_inTD ha hb hm
theorem se_notInTD {k : Nat} (hr : Room k X.A) (ha : SE X aw a m) (hb : SE X aw b n) (hm : behindInMarks .NotIn b = false := by with_unfolding_all rfl) : SE X aw (.Compare a [.NotIn] [b] pos) (eOp (fInTD true) m n) := se_cmp (op_inTD (neg := true) (room65 hr)) ok_inTD ha hb hm
theorem st_inTD {k : Nat} (hr : Room k X.A) (ha : SE X aw a m) (hb : SE X aw b n) (hm : behindInMarks .In b = false := by with_unfolding_all rfl) : ST X aw (.Compare a [.In] [b] pos) (eT (eOp (fInTD false) m n)) := st_op (op_inTD (neg := false) (room65 hr)) ok_inTD ha hb hm
theorem st_notInTD {k : Nat} (hr : Room k X.A) (ha : SE X aw a m) (hb : SE X aw b n) (hm : behindInMarks .NotIn b = false := by with_unfolding_all rfl) : ST X aw (.Compare a [.NotIn] [b] pos) (eT (eOp (fInTD true) m n)) := st_op (op_inTD (neg := true) (room65 hr)) ok_inTD ha hb hm
end


/-! ### what the top has written -/
/-- the def x, written out -/
def DefAt (K : PySem.W.Frag) (x : Str) (st : Stmt) : Prop := ∃ (f : Addr) (oc : Value) (od : Option Addr) (osl : Array (Option Value)) (kV doc pm : Value) (an : Option Addr) (cdv ct : Value),
  PySem.W.nsIn K mainGlobals x = some (some (.ref f)) ∧ K.lookup f = some ⟨oc, od, .func (PySem.W.fnOf x x (defArgs st) (defBody st) (defScope st) .none kV doc pm an cdv ct), osl⟩ ∧
  PySem.W.codeIn K cdv x = true ∧ PySem.W.keepIn K (.ref f) = true
theorem defAt {K : PySem.W.Frag} {x : Str} {st : Stmt} {f : Addr} {oc : Value} {od : Option Addr} {osl : Array (Option Value)} {kV doc pm : Value} {an : Option Addr} {cdv ct : Value}
    (a : PySem.W.nsIn K mainGlobals x = some (some (.ref f))) (l : K.lookup f = some ⟨oc, od, .func (PySem.W.fnOf x x (defArgs st) (defBody st) (defScope st) .none kV doc pm an cdv ct), osl⟩)
    (c : PySem.W.codeIn K cdv x = true) (k : PySem.W.keepIn K (.ref f) = true) : DefAt K x st := ⟨_, _, _, _, _, _, _, _, _, _, a, l, c, k⟩
/-- it is there, and can be called -/
def Has (K : PySem.W.Frag) (mg : Str → Option Value) (x : Str) (st : Stmt) : Prop := ∃ f fd, Fun K x x st f fd ∧ mg x = some (.ref f)
theorem DefAt.has {K : PySem.W.Frag} {h : Heap} {mg : Str → Option Value} {x : Str} {st : Stmt} (X : K.In h) (G : h.Ns mainGlobals mg) (d : DefAt K x st) : Has K mg x st := by
  obtain ⟨f, _, _, _, _, _, _, _, _, _, a, l, c, k⟩ := d
  exact ⟨f, _, fun_mk (st := st) l c k, PySem.W.mg_of X G a⟩
/-- a pair of ints, written out -/
def CstAt (K : PySem.W.Frag) (x : Str) (i j : Int) : Prop := ∃ (c : Addr) (t u : Tok) (dd : Option Addr) (n : Nat) (sl : Array (Option Value)), PySem.W.nsIn K mainGlobals x = some (some (.ref c)) ∧ K.lookup c = some ⟨.type "tuple", dd, .seq #[.int i t, .int j u] n, sl⟩
theorem cstAt {K : PySem.W.Frag} {x : Str} {i j : Int} {c : Addr} {t u : Tok} {dd : Option Addr} {n : Nat} {sl : Array (Option Value)} (a : PySem.W.nsIn K mainGlobals x = some (some (.ref c)))
    (l : K.lookup c = some ⟨.type "tuple", dd, .seq #[.int i t, .int j u] n, sl⟩) : CstAt K x i j := ⟨c, t, u, dd, n, sl, a, l⟩


/-! ### one word of a meaning at a time: what is to be shown for it -/
section
variable {s t u : MS} {ρ ρ' : En} {nx bk ct : En → Prop} {rt : D → Prop} {m n : En → M D} {c c' : En → M Bool} {g : MG} {gs : MGs} {b : MS} {d e : D} {ds es r : List D} {Q : D → Prop} {QB : Bool → Prop} {QL : List D → Prop} {QE : En → Prop} {QO : Option Int → Prop}
  {tl : En → M (List D)} {it : En → M (List D)} {F : List D → M D} {f2 : D → D → M D} {f1 : D → M D} {i j l k : Nat} {x y : Int} {bb : Bool} {A B : Prop} {P : Po} {z : Str} {lo hi : En → M (Option Int)}
theorem w_body (h : env0 k ds = ρ) (q : s ρ ⟨fun _ => Q .none, Q, fun _ => False, fun _ => False⟩) : bodyF k s ds Q := by subst h; exact q
theorem w_seq (q : s ρ ⟨fun ρ' => t ρ' ⟨nx, rt, bk, ct⟩, rt, bk, ct⟩) : sSeq s t ρ ⟨nx, rt, bk, ct⟩ := q
theorem w_next (q : nx ρ) : sNext ρ ⟨nx, rt, bk, ct⟩ := q
theorem w_break (q : bk ρ) : sBreak ρ ⟨nx, rt, bk, ct⟩ := q
theorem w_pnx (q : nx ρ) : Po.nx ⟨nx, rt, bk, ct⟩ ρ := q
theorem w_pbk (q : bk ρ) : Po.bk ⟨nx, rt, bk, ct⟩ ρ := q
theorem w_pct (q : ct ρ) : Po.ct ⟨nx, rt, bk, ct⟩ ρ := q
theorem w_prt (q : rt d) : Po.rt ⟨nx, rt, bk, ct⟩ d := q
theorem w_ret (q : m ρ rt) : sRet m ρ ⟨nx, rt, bk, ct⟩ := q
theorem w_asg (q : m ρ fun d => g d ρ nx) : sAsg m g ρ ⟨nx, rt, bk, ct⟩ := q
theorem w_if (q : c ρ fun b => if b = true then s ρ P else t ρ P) : sIf c s t ρ P := q
theorem w_par (h : (ρ.set i (.va d)).set j (.va e) = ρ') (q : nx ρ') : (match [d, e] with | [a, b] => nx ((ρ.set i (.va a)).set j (.va b)) | _ => False) := by subst h; exact q
def kPar (i j : Nat) (ρ : En) (nx : En → Prop) : List D → Prop
  | [a, b] => nx ((ρ.set i (.va a)).set j (.va b))
  | _ => False
theorem w_sPar (q : tl ρ (kPar i j ρ nx)) : sPar i j tl ρ ⟨nx, rt, bk, ct⟩ := by
  unfold sPar
  refine cast ?_ q
  congr 1
theorem w_kPar (h : (ρ.set i (.va d)).set j (.va e) = ρ') (q : nx ρ') : kPar i j ρ nx [d, e] := by subst h; exact q
def kPar3 (i j l : Nat) (ρ : En) (nx : En → Prop) : List D → Prop
  | [a, b, c] => nx (((ρ.set i (.va a)).set j (.va b)).set l (.va c))
  | _ => False
theorem w_sPar3 (q : tl ρ (kPar3 i j l ρ nx)) : sPar3 i j l tl ρ ⟨nx, rt, bk, ct⟩ := by
  unfold sPar3
  refine cast ?_ q
  congr 1
theorem w_kPar3 {d3 : D} (h : ((ρ.set i (.va d)).set j (.va e)).set l (.va d3) = ρ') (q : nx ρ') : kPar3 i j l ρ nx [d, e, d3] := by subst h; exact q
theorem w_for (q : it ρ fun ds => forW g b ds ρ P) : sFor it g b ρ P := q
theorem w_forC (q : g d ρ fun ρ1 => b ρ1 ⟨fun ρ2 => forW g b ds ρ2 ⟨nx, rt, bk, ct⟩, rt, nx, fun ρ2 => forW g b ds ρ2 ⟨nx, rt, bk, ct⟩⟩) : forW g b (d :: ds) ρ ⟨nx, rt, bk, ct⟩ := q
theorem w_forN (q : nx ρ) : forW g b [] ρ ⟨nx, rt, bk, ct⟩ := q
theorem w_own (q : tl ρ fun ds => ds.length ≤ 100000 ∧ nx (ρ.set i (.ow ds))) : sOwn i tl ρ ⟨nx, rt, bk, ct⟩ := q
theorem w_nxset (h : ρ.set i v = ρ') (q : QE ρ') : QE (ρ.set i v) := by subst h; exact q
theorem w_env {ρ0 : En} (h : ρ0 = ρ') (q : QE ρ') : QE ρ0 := by subst h; exact q
theorem w_freeze (h : ρ[i]? = some (.ow ds)) (h2 : ρ.set i (.va (.list ds)) = ρ') (q : s ρ' P) : sFreeze i s ρ P := by
  unfold sFreeze; rw [h]; subst h2; exact q
def kApp (i : Nat) (ds : List D) (ρ : En) (nx : En → Prop) : List D → Prop
  | [d] => ds.length < 100000 ∧ nx (ρ.set i (.ow (ds ++ [d])))
  | _ => False
theorem w_app (h : ρ[i]? = some (.ow ds)) (q : tl ρ (kApp i ds ρ nx)) : sApp i tl ρ ⟨nx, rt, bk, ct⟩ := by
  unfold sApp; rw [h]
  refine cast ?_ q
  congr 1
theorem w_kApp (hl : ds.length < 100000) (h : ρ.set i (.ow (ds ++ [d])) = ρ') (q : nx ρ') : kApp i ds ρ nx [d] := by subst h; exact ⟨hl, q⟩
def kIns (i : Nat) (ds : List D) (ρ : En) (nx : En → Prop) : List D → Prop
  | [.int n, d] => ds.length < 100000 ∧ 0 ≤ n ∧ n ≤ 100000 ∧ nx (ρ.set i (.ow (ds.take n.toNat ++ [d] ++ ds.drop n.toNat)))
  | _ => False
theorem w_ins (h : ρ[i]? = some (.ow ds)) (q : tl ρ (kIns i ds ρ nx)) : sIns i tl ρ ⟨nx, rt, bk, ct⟩ := by
  unfold sIns; rw [h]
  refine cast ?_ q
  congr 1
theorem w_aug (h : ρ[i]? = some (.va d)) (q : m ρ fun y => f2 d y fun z => nx (ρ.set i (.va z))) : sAug i f2 m ρ ⟨nx, rt, bk, ct⟩ := by
  unfold sAug; rw [h]; exact q
theorem w_itO (h : ρ[i]? = some (.ow ds)) (q : QL ds) : itO i ρ QL := by unfold itO; rw [h]; exact q
theorem w_var (h : ρ[i]? = some (.va d)) (q : Q d) : eVar i ρ Q := by unfold eVar; rw [h]; exact q
theorem w_c (q : Q d) : eC d ρ Q := q
theorem w_op (q : m ρ fun x => n ρ fun y => f2 x y Q) : eOp f2 m n ρ Q := q
theorem w_un (q : m ρ fun x => f1 x Q) : eUn f1 m ρ Q := q
def kT (Q : Bool → Prop) : D → Prop
  | .bool b => Q b
  | _ => False
theorem w_t (q : m ρ (kT QB)) : eT m ρ QB := q
theorem w_kT (q : QB bb) : kT QB (.bool bb) := q
theorem w_mAnd (q : c ρ fun b => if b = true then c' ρ QB else QB false) : mAnd c c' ρ QB := q
theorem w_mOr (q : c ρ fun b => if b = true then QB true else c' ρ QB) : mOr c c' ρ QB := q
theorem w_mNot (q : c ρ fun b => QB (!b)) : mNot c ρ QB := q
theorem w_yes (q : QB true) : mYes ρ QB := q
def kAnd (n : En → M D) (ρ : En) (Q : D → Prop) : D → Prop
  | .bool b => if b = true then n ρ Q else Q (.bool false)
  | _ => False
theorem w_eAnd (q : m ρ (kAnd n ρ Q)) : eAnd m n ρ Q := q
theorem w_kAnd (q : if bb = true then n ρ Q else Q (.bool false)) : kAnd n ρ Q (.bool bb) := q
def kOr (n : En → M D) (ρ : En) (Q : D → Prop) : D → Prop
  | .bool b => if b = true then Q (.bool true) else n ρ Q
  | _ => False
theorem w_eOr (q : m ρ (kOr n ρ Q)) : eOr m n ρ Q := q
theorem w_kOr (q : if bb = true then Q (.bool true) else n ρ Q) : kOr n ρ Q (.bool bb) := q
def kNot (Q : D → Prop) : D → Prop
  | .bool b => Q (.bool (!b))
  | _ => False
theorem w_eNot (q : m ρ (kNot Q)) : eNot m ρ Q := q
theorem w_kNot (q : Q (.bool (!bb))) : kNot Q (.bool bb) := q
theorem w_eIf (q : c ρ fun b => if b = true then m ρ Q else n ρ Q) : eIf c m n ρ Q := q
theorem w_nil (q : QL []) : aNil ρ QL := q
theorem w_cons (q : m ρ fun d => tl ρ fun ds => QL (d :: ds)) : aCons m tl ρ QL := q
theorem w_tup (q : tl ρ fun ds => ds.length ≤ 100000 ∧ Q (.tuple ds)) : eTup tl ρ Q := q
theorem w_lst (q : tl ρ fun ds => ds.length ≤ 100000 ∧ Q (.list ds)) : eLst tl ρ Q := q
theorem w_call (q : tl ρ fun ds => F ds Q) : eCall F tl ρ Q := q
theorem w_callN (q : tl ρ fun ds => ds.length = k ∧ F ds Q) : eCallN k F tl ρ Q := q
theorem w_mgName (h : ρ.set i (.va d) = ρ') (q : QE ρ') : mgName i d ρ QE := by subst h; exact q
theorem w_mgTup (h : ds.length = k) (q : gs ds ρ QE) : mgTup k gs (.tuple ds) ρ QE := ⟨h, q⟩
theorem w_mgLst (h : ds.length = k) (q : gs ds ρ QE) : mgLst k gs (.list ds) ρ QE := ⟨h, q⟩
theorem w_mgCons (q : g d ρ fun ρ' => gs r ρ' QE) : mgCons g gs (d :: r) ρ QE := q
theorem w_mgNil (q : QE ρ) : mgNil [] ρ QE := ⟨rfl, q⟩
def kItL (Q : List D → Prop) : D → Prop
  | .list ds => Q ds
  | _ => False
theorem w_itL (q : m ρ (kItL QL)) : itL m ρ QL := q
theorem w_kItL (q : QL ds) : kItL QL (.list ds) := q
def kItT (Q : List D → Prop) : D → Prop
  | .tuple ds => Q ds
  | _ => False
theorem w_itT (q : m ρ (kItT QL)) : itT m ρ QL := q
theorem w_kItT (q : QL ds) : kItT QL (.tuple ds) := q
def kR1 (Q : List D → Prop) : List D → Prop
  | [.int b] => b ≤ 100000 ∧ -100000 ≤ b ∧ Q (rngD 0 b.toNat)
  | _ => False
theorem w_itR1 (q : tl ρ (kR1 QL)) : itR1 tl ρ QL := by
  unfold itR1
  refine cast ?_ q
  congr 1
theorem w_kR1 (h1 : x ≤ 100000) (h2 : -100000 ≤ x) (q : QL (rngD 0 x.toNat)) : kR1 QL [.int x] := ⟨h1, h2, q⟩
theorem w_lc (q : it ρ fun ds => ds.length < 100000 ∧ lcW g c m (wipeE ρ is) ds [] fun out => Q (.list out)) : eLc it is g c m ρ Q := q
theorem w_lcC (q : g d ρ fun ρ1 => c ρ1 fun b => if b = true then m ρ1 fun y => lcW g c m ρ ds (es ++ [y]) QL else lcW g c m ρ ds es QL) : lcW g c m ρ (d :: ds) es QL := q
theorem w_lcN (q : QL es) : lcW g c m ρ [] es QL := q
theorem w_lcN' (h : es = ds) (q : QL ds) : lcW g c m ρ [] es QL := by subst h; exact q
theorem w_all {bs : List Bool} {b0 : Bool} (h : boolsOf ds = some bs) (h2 : bs.all id = b0) (q : Q (.bool b0)) : fAll [.list ds] Q := by
  show (match boolsOf ds with | some bs => Q (.bool (bs.all id)) | none => False)
  rw [h]; subst h2; exact q
theorem w_oNone (q : QO none) : oNone ρ QO := q
def kO (Q : Option Int → Prop) : D → Prop
  | .int i => Q (some i)
  | _ => False
theorem w_oSome (q : m ρ (kO QO)) : oSome m ρ QO := q
theorem w_kO (q : QO (some x)) : kO QO (.int x) := q
theorem w_eSl (q : m ρ fun d => lo ρ fun l => hi ρ fun h => fSl d l h Q) : eSl m lo hi ρ Q := q
theorem w_fSlS {l h : Option Int} (hz : z.length ≤ 100000) (q : Q (.str (cutS z l h))) : fSl (.str z) l h Q := ⟨hz, q⟩
theorem w_fSlL {l h : Option Int} (q : Q (.list (cutD ds l h))) : fSl (.list ds) l h Q := q
theorem w_fSlT {l h : Option Int} (q : Q (.tuple (cutD ds l h))) : fSl (.tuple ds) l h Q := q
theorem w_add (q : Q (.int (x + y))) : fAdd (.int x) (.int y) Q := ⟨trivial, q⟩
theorem w_sub (q : Q (.int (x - y))) : fSub (.int x) (.int y) Q := ⟨trivial, q⟩
theorem w_mul (h : CMulW x y) (q : Q (.int (x * y))) : fMul (.int x) (.int y) Q := ⟨h, q⟩
theorem w_div (h : CDv x y) (q : Q (.int (x.fdiv y))) : fDiv (.int x) (.int y) Q := ⟨h, q⟩
theorem w_mod (h : y ≠ 0) (q : Q (.int (x.fmod y))) : fMod (.int x) (.int y) Q := ⟨h, q⟩
theorem w_pow (h : CPow x y) (q : Q (.int (x ^ y.toNat))) : fPow (.int x) (.int y) Q := ⟨h, q⟩
theorem w_lt (q : Q (.bool (decide (x < y)))) : fLt (.int x) (.int y) Q := ⟨trivial, q⟩
theorem w_le (q : Q (.bool (decide (x ≤ y)))) : fLe (.int x) (.int y) Q := ⟨trivial, q⟩
theorem w_gt (q : Q (.bool (decide (y < x)))) : fGt (.int x) (.int y) Q := ⟨trivial, q⟩
theorem w_ge (q : Q (.bool (decide (y ≤ x)))) : fGe (.int x) (.int y) Q := ⟨trivial, q⟩
theorem w_eq (h1 : okD d) (h2 : okD e) (q : Q (.bool (PyData.eqv d e))) : fEq d e Q := ⟨h1, h2, q⟩
theorem w_ne (h1 : okD d) (h2 : okD e) (q : Q (.bool (!PyData.eqv d e))) : fNe d e Q := ⟨h1, h2, q⟩
theorem w_ixT (h : atI ds x = some d) (q : Q d) : fIx (.tuple ds) (.int x) Q := by
  show (match atI ds x with | some d => Q d | none => False)
  rw [h]; exact q
theorem w_ixL (h : atI ds x = some d) (q : Q d) : fIx (.list ds) (.int x) Q := by
  show (match atI ds x with | some d => Q d | none => False)
  rw [h]; exact q
theorem w_neg (q : Q (.int (-x))) : fNeg (.int x) Q := q
theorem w_subB {b2 : Bool} (q : Q (.int ((if bb = true then 1 else 0) - (if b2 = true then 1 else 0)))) : fSubB (.bool bb) (.bool b2) Q := q
theorem w_lenL (q : Q (.int ds.length)) : fLen [.list ds] Q := q
theorem w_lenT (q : Q (.int ds.length)) : fLen [.tuple ds] Q := q
theorem w_lenLn (h : ((ds.length : Nat) : Int) = x) (q : Q (.int x)) : fLen [.list ds] Q := by subst h; exact q
theorem w_lenTn (h : ((ds.length : Nat) : Int) = x) (q : Q (.int x)) : fLen [.tuple ds] Q := by subst h; exact q
theorem w_lenS (h : z.length ≤ 100000) (q : Q (.int z.length)) : fLen [.str z] Q := ⟨h, q⟩
theorem w_abs (q : Q (.int (if x < 0 then -x else x))) : fAbs [.int x] Q := q
theorem w_intc (q : Q (.int x)) : fInt [.int x] Q := q
theorem w_tupL (q : Q (.tuple ds)) : fTuple [.list ds] Q := q
theorem w_tupT (q : Q (.tuple ds)) : fTuple [.tuple ds] Q := q
theorem w_lisL (q : Q (.list ds)) : fList [.list ds] Q := q
theorem w_lisT (q : Q (.list ds)) : fList [.tuple ds] Q := q
theorem w_isNn (q : Q (.bool true)) : fIsN .none .none Q := ⟨rfl, q⟩
theorem w_isNt (q : Q (.bool false)) : fIsN (.tuple ds) .none Q := ⟨rfl, q⟩
theorem w_isNi (q : Q (.bool false)) : fIsN (.int x) .none Q := ⟨rfl, q⟩
theorem w_notNn (q : Q (.bool false)) : fNotN .none .none Q := ⟨rfl, q⟩
theorem w_notNt (q : Q (.bool true)) : fNotN (.tuple ds) .none Q := ⟨rfl, q⟩
theorem w_notNi (q : Q (.bool true)) : fNotN (.int x) .none Q := ⟨rfl, q⟩
theorem w_isB {b2 : Bool} (q : Q (.bool (decide (bb = b2)))) : fIsB (.bool bb) (.bool b2) Q := q
theorem w_notB {b2 : Bool} (q : Q (.bool (!decide (bb = b2)))) : fNotB (.bool bb) (.bool b2) Q := q
theorem w_catL (h : ds.length + es.length ≤ 100000) (q : Q (.list (ds ++ es))) : fCatL (.list ds) (.list es) Q := ⟨h, q⟩
theorem w_catS {z2 : Str} (h : z.length + z2.length ≤ 100000) (q : Q (.str (z ++ z2))) : fCatS (.str z) (.str z2) Q := ⟨h, q⟩
theorem w_isi {T a : String} (h : tyD d = some a) (q : Q (.bool (isD a T))) : fIsi T d Q := by
  unfold fIsi; rw [h]; exact q
theorem w_iteT (h : bb = true) (q : A) : if bb = true then A else B := by rw [if_pos h]; exact q
theorem w_iteF (h : bb = false) (q : B) : if bb = true then A else B := by rw [if_neg (by rw [h]; decide)]; exact q
theorem w_and (h : A) (q : B) : A ∧ B := ⟨h, q⟩
end


/-! ### one step, found by its word -/
class Stp (A : Prop) (B : outParam Prop) : Prop where
  h : B → A
class SetR (ρ : En) (i : Nat) (s : Sl) (ρ' : outParam En) : Prop where
  e : ρ.set i s = ρ'
class LkR (ρ : En) (i : Nat) (s : outParam Sl) : Prop where
  e : ρ[i]? = some s
class WipR (ρ : En) (is : List Nat) (ρ' : outParam En) : Prop where
  e : wipeE ρ is = ρ'
class EnvR (k : Nat) (ds : List D) (ρ : outParam En) : Prop where
  e : env0 k ds = ρ
class AppR {α : Type} (xs : List α) (y : α) (zs : outParam (List α)) : Prop where
  e : xs ++ [y] = zs
class ListR {α : Type} (xs : List α) (zs : outParam (List α)) : Prop where
  e : xs = zs
class Shrt {α : Type} (xs : List α) (n : Nat) : Prop where
  e : xs.length ≤ n
class LnR {α : Type} (xs : List α) (n : Nat) : Prop where
  e : xs.length = n
class AtR (xs : List D) (i : Int) (d : outParam D) : Prop where
  e : atI xs i = some d
class AllR (xs : List D) (b : outParam Bool) : Prop where
  e : ∃ bs, boolsOf xs = some bs ∧ bs.all id = b
class IsiR (T : String) (d : D) (b : outParam Bool) : Prop where
  e : ∃ a, tyD d = some a ∧ isD a T = b
section
variable {a : Sl} {ρ ρ' ρ1 : En} {i : Nat} {s : Sl} {is : List Nat} {k n : Nat} {d : D} {ds : List D}
instance : SetR (a :: ρ) 0 s (s :: ρ) := ⟨rfl⟩
instance [h : SetR ρ i s ρ'] : SetR (a :: ρ) (i + 1) s (a :: ρ') := ⟨by rw [List.set_cons_succ, h.e]⟩
instance : LkR (a :: ρ) 0 a := ⟨rfl⟩
instance [h : LkR ρ i s] : LkR (a :: ρ) (i + 1) s := ⟨by rw [List.getElem?_cons_succ, h.e]⟩
instance : WipR ρ [] ρ := ⟨rfl⟩
instance [h : WipR ρ is ρ1] [h2 : SetR ρ1 i .no ρ'] : WipR ρ (i :: is) ρ' := ⟨by show (wipeE ρ is).set i .no = ρ'; rw [h.e, h2.e]⟩
instance : EnvR 0 [] [] := ⟨rfl⟩
instance [h : EnvR k [] ρ] : EnvR (k + 1) [] (.no :: ρ) := ⟨by
  have e := h.e
  unfold env0 at *
  simp only [List.map_nil, List.nil_append, List.length_nil, Nat.sub_zero, List.replicate_succ] at *
  rw [e]⟩
instance [h : EnvR k ds ρ] : EnvR (k + 1) (d :: ds) (.va d :: ρ) := ⟨by
  have e := h.e
  unfold env0 at *
  simp only [List.map_cons, List.cons_append, List.length_cons, Nat.add_sub_add_right] at *
  rw [e]⟩
end
section
variable {α : Type} {x y : α} {xs ys zs : List α} {n : Nat}
instance : AppR ([] : List α) y [y] := ⟨rfl⟩
instance [h : AppR xs y zs] : AppR (x :: xs) y (x :: zs) := ⟨by rw [List.cons_append, h.e]⟩
instance : ListR ([] : List α) [] := ⟨rfl⟩
instance [h : ListR xs ys] [h2 : AppR ys y zs] : ListR (xs ++ [y]) zs := ⟨by rw [h.e, h2.e]⟩
instance : Shrt ([] : List α) n := ⟨Nat.zero_le _⟩
instance [h : Shrt xs n] : Shrt (x :: xs) (n + 1) := ⟨Nat.succ_le_succ h.e⟩
instance : LnR ([] : List α) 0 := ⟨rfl⟩
instance [h : LnR xs n] : LnR (x :: xs) (n + 1) := ⟨congrArg (· + 1) h.e⟩
end
section
variable {a b c d e f g h i j : D} {ds : List D} {bb : Bool}
instance : AtR (a :: ds) 0 a := ⟨by
  have e : ixN (a :: ds).length 0 = some 0 := by
    unfold ixN
    rw [if_pos (by omega), if_pos (by simp)]
    rfl
  unfold atI
  rw [e]
  rfl⟩
theorem at_suc {n : Nat} {xs : List D} {d : D} (h : atI xs (n : Int) = some d) : atI (a :: xs) ((n : Int) + 1) = some d := by
  unfold atI ixN at *
  rw [if_pos (by omega)] at *
  by_cases z : (n : Int).toNat < xs.length
  · rw [if_pos (by omega)] at h
    rw [if_pos (by rw [List.length_cons]; omega)]
    rw [show ((n : Int) + 1).toNat = (n : Int).toNat + 1 by omega]
    exact h
  · rw [if_neg (by omega)] at h
    cases h
instance [h : AtR ds 0 d] : AtR (a :: ds) 1 d := ⟨at_suc (n := 0) h.e⟩
instance [h : AtR ds 1 d] : AtR (a :: ds) 2 d := ⟨at_suc (n := 1) h.e⟩
instance [h : AtR ds 2 d] : AtR (a :: ds) 3 d := ⟨at_suc (n := 2) h.e⟩
instance [h : AtR ds 3 d] : AtR (a :: ds) 4 d := ⟨at_suc (n := 3) h.e⟩
instance [h : AtR ds 4 d] : AtR (a :: ds) 5 d := ⟨at_suc (n := 4) h.e⟩
instance [h : AtR ds 5 d] : AtR (a :: ds) 6 d := ⟨at_suc (n := 5) h.e⟩
instance [h : AtR ds 6 d] : AtR (a :: ds) 7 d := ⟨at_suc (n := 6) h.e⟩
instance [h : AtR ds 7 d] : AtR (a :: ds) 8 d := ⟨at_suc (n := 7) h.e⟩
instance [h : AtR ds 8 d] : AtR (a :: ds) 9 d := ⟨at_suc (n := 8) h.e⟩
instance : AllR [] true := ⟨[], rfl, rfl⟩
instance [h : AllR ds bb] : AllR (.bool true :: ds) bb := ⟨by
  obtain ⟨bs, e, q⟩ := h.e
  exact ⟨true :: bs, by unfold boolsOf; rw [e]; rfl, by rw [List.all_cons, q]; rfl⟩⟩
instance [h : AllR ds bb] : AllR (.bool false :: ds) false := ⟨by
  obtain ⟨bs, e, q⟩ := h.e
  exact ⟨false :: bs, by unfold boolsOf; rw [e]; rfl, by rw [List.all_cons]; rfl⟩⟩
end
section
variable {x : Int} {b : Bool} {z : Str} {ds : List D}
instance : IsiR "int" .none false := ⟨_, rfl, by decide⟩
instance : IsiR "int" (.bool b) true := ⟨_, rfl, by decide⟩
instance : IsiR "int" (.int x) true := ⟨_, rfl, by decide⟩
instance : IsiR "int" (.str z) false := ⟨_, rfl, by decide⟩
instance : IsiR "int" (.list ds) false := ⟨_, rfl, by decide⟩
instance : IsiR "int" (.tuple ds) false := ⟨_, rfl, by decide⟩
instance : IsiR "bool" .none false := ⟨_, rfl, by decide⟩
instance : IsiR "bool" (.bool b) true := ⟨_, rfl, by decide⟩
instance : IsiR "bool" (.int x) false := ⟨_, rfl, by decide⟩
instance : IsiR "bool" (.str z) false := ⟨_, rfl, by decide⟩
instance : IsiR "bool" (.list ds) false := ⟨_, rfl, by decide⟩
instance : IsiR "bool" (.tuple ds) false := ⟨_, rfl, by decide⟩
instance : IsiR "str" .none false := ⟨_, rfl, by decide⟩
instance : IsiR "str" (.bool b) false := ⟨_, rfl, by decide⟩
instance : IsiR "str" (.int x) false := ⟨_, rfl, by decide⟩
instance : IsiR "str" (.str z) true := ⟨_, rfl, by decide⟩
instance : IsiR "str" (.list ds) false := ⟨_, rfl, by decide⟩
instance : IsiR "str" (.tuple ds) false := ⟨_, rfl, by decide⟩
instance : IsiR "tuple" .none false := ⟨_, rfl, by decide⟩
instance : IsiR "tuple" (.bool b) false := ⟨_, rfl, by decide⟩
instance : IsiR "tuple" (.int x) false := ⟨_, rfl, by decide⟩
instance : IsiR "tuple" (.str z) false := ⟨_, rfl, by decide⟩
instance : IsiR "tuple" (.list ds) false := ⟨_, rfl, by decide⟩
instance : IsiR "tuple" (.tuple ds) true := ⟨_, rfl, by decide⟩
instance : IsiR "list" .none false := ⟨_, rfl, by decide⟩
instance : IsiR "list" (.bool b) false := ⟨_, rfl, by decide⟩
instance : IsiR "list" (.int x) false := ⟨_, rfl, by decide⟩
instance : IsiR "list" (.str z) false := ⟨_, rfl, by decide⟩
instance : IsiR "list" (.list ds) true := ⟨_, rfl, by decide⟩
instance : IsiR "list" (.tuple ds) false := ⟨_, rfl, by decide⟩
instance : IsiR "dict" .none false := ⟨_, rfl, by decide⟩
instance : IsiR "dict" (.bool b) false := ⟨_, rfl, by decide⟩
instance : IsiR "dict" (.int x) false := ⟨_, rfl, by decide⟩
instance : IsiR "dict" (.str z) false := ⟨_, rfl, by decide⟩
instance : IsiR "dict" (.list ds) false := ⟨_, rfl, by decide⟩
instance : IsiR "dict" (.tuple ds) false := ⟨_, rfl, by decide⟩
end
section
variable {s t u : MS} {ρ ρ' ρ1 ρ2 ρ3 : En} {nx bk ct : En → Prop} {rt : D → Prop} {m n : En → M D} {c c' : En → M Bool} {g : MG} {gs : MGs} {b : MS} {d e d3 : D} {ds es r : List D} {Q : D → Prop} {QB : Bool → Prop} {QL : List D → Prop} {QE : En → Prop} {QO : Option Int → Prop}
  {tl : En → M (List D)} {it : En → M (List D)} {F : List D → M D} {f2 : D → D → M D} {f1 : D → M D} {i j l k : Nat} {is : List Nat} {x y : Int} {bb b2 : Bool} {A B : Prop} {P : Po} {z z2 : Str} {lo hi : En → M (Option Int)} {lo1 hi1 : Option Int} {T : String}
def kOwn (i : Nat) (ρ : En) (nx : En → Prop) (ds : List D) : Prop := ds.length ≤ 100000 ∧ nx (ρ.set i (.ow ds))
theorem w_kOwn (hl : ds.length ≤ 100000) (h : ρ.set i (.ow ds) = ρ') (q : nx ρ') : kOwn i ρ nx ds := ⟨hl, by rw [h]; exact q⟩
def kAug (i : Nat) (ρ : En) (nx : En → Prop) (d : D) : Prop := nx (ρ.set i (.va d))
instance [h : EnvR k ds ρ] : Stp (bodyF k s ds Q) (s ρ ⟨fun _ => Q .none, Q, fun _ => False, fun _ => False⟩) := ⟨fun q => w_body h.e q⟩
instance : Stp (sSeq s t ρ ⟨nx, rt, bk, ct⟩) (s ρ ⟨fun ρ2 => t ρ2 ⟨nx, rt, bk, ct⟩, rt, bk, ct⟩) := ⟨w_seq⟩
instance : Stp (sNext ρ ⟨nx, rt, bk, ct⟩) (nx ρ) := ⟨w_next⟩
instance : Stp (sBreak ρ ⟨nx, rt, bk, ct⟩) (bk ρ) := ⟨w_break⟩
instance : Stp (sCont ρ ⟨nx, rt, bk, ct⟩) (ct ρ) := ⟨fun q => q⟩
instance : Stp (sRet m ρ ⟨nx, rt, bk, ct⟩) (m ρ rt) := ⟨w_ret⟩
instance : Stp (sAsg m g ρ ⟨nx, rt, bk, ct⟩) (m ρ fun d => g d ρ nx) := ⟨w_asg⟩
instance : Stp (sIf c s t ρ P) (c ρ fun b => if b = true then s ρ P else t ρ P) := ⟨w_if⟩
instance : Stp (sPar i j tl ρ ⟨nx, rt, bk, ct⟩) (tl ρ (kPar i j ρ nx)) := ⟨w_sPar⟩
instance [h : SetR ρ i (.va d) ρ1] [h2 : SetR ρ1 j (.va e) ρ2] : Stp (kPar i j ρ nx [d, e]) (nx ρ2) := ⟨fun q => w_kPar (by rw [h.e, h2.e]) q⟩
instance : Stp (sPar3 i j l tl ρ ⟨nx, rt, bk, ct⟩) (tl ρ (kPar3 i j l ρ nx)) := ⟨w_sPar3⟩
instance [h : SetR ρ i (.va d) ρ1] [h2 : SetR ρ1 j (.va e) ρ2] [h3 : SetR ρ2 l (.va d3) ρ3] : Stp (kPar3 i j l ρ nx [d, e, d3]) (nx ρ3) := ⟨fun q => w_kPar3 (by rw [h.e, h2.e, h3.e]) q⟩
instance : Stp (sFor it g b ρ P) (it ρ fun ds => forW g b ds ρ P) := ⟨w_for⟩
instance : Stp (forW g b (d :: ds) ρ ⟨nx, rt, bk, ct⟩) (g d ρ fun ρ1 => b ρ1 ⟨fun ρ2 => forW g b ds ρ2 ⟨nx, rt, bk, ct⟩, rt, nx, fun ρ2 => forW g b ds ρ2 ⟨nx, rt, bk, ct⟩⟩) := ⟨w_forC⟩
instance : Stp (forW g b [] ρ ⟨nx, rt, bk, ct⟩) (nx ρ) := ⟨w_forN⟩
instance : Stp (sOwn i tl ρ ⟨nx, rt, bk, ct⟩) (tl ρ (kOwn i ρ nx)) := ⟨w_own⟩
instance [hl : Shrt ds 100000] [h : SetR ρ i (.ow ds) ρ1] : Stp (kOwn i ρ nx ds) (nx ρ1) := ⟨fun q => w_kOwn hl.e h.e q⟩
instance [h : LkR ρ i (.ow ds)] [h2 : SetR ρ i (.va (.list ds)) ρ1] : Stp (sFreeze i s ρ P) (s ρ1 P) := ⟨fun q => w_freeze h.e h2.e q⟩
instance [h : LkR ρ i (.ow ds)] : Stp (sApp i tl ρ ⟨nx, rt, bk, ct⟩) (tl ρ (kApp i ds ρ nx)) := ⟨w_app h.e⟩
instance [hl : Shrt ds 99999] [h0 : AppR ds d es] [h : SetR ρ i (.ow es) ρ1] : Stp (kApp i ds ρ nx [d]) (nx ρ1) := ⟨fun q => w_kApp (Nat.lt_succ_of_le hl.e) (by rw [h0.e, h.e]) q⟩
instance [h : LkR ρ i (.ow ds)] : Stp (sIns i tl ρ ⟨nx, rt, bk, ct⟩) (tl ρ (kIns i ds ρ nx)) := ⟨w_ins h.e⟩
instance [h : LkR ρ i (.va d)] : Stp (sAug i f2 m ρ ⟨nx, rt, bk, ct⟩) (m ρ fun y => f2 d y (kAug i ρ nx)) := ⟨fun q => w_aug h.e q⟩
instance [h : SetR ρ i (.va d) ρ1] : Stp (kAug i ρ nx d) (nx ρ1) := ⟨fun q => by unfold kAug; rw [h.e]; exact q⟩
instance [h : LkR ρ i (.ow ds)] : Stp (itO i ρ QL) (QL ds) := ⟨w_itO h.e⟩
instance [h : LkR ρ i (.va d)] : Stp (eVar i ρ Q) (Q d) := ⟨w_var h.e⟩
instance : Stp (eC d ρ Q) (Q d) := ⟨w_c⟩
instance : Stp (eOp f2 m n ρ Q) (m ρ fun x => n ρ fun y => f2 x y Q) := ⟨w_op⟩
instance : Stp (eUn f1 m ρ Q) (m ρ fun x => f1 x Q) := ⟨w_un⟩
instance : Stp (eT m ρ QB) (m ρ (kT QB)) := ⟨w_t⟩
instance : Stp (kT QB (.bool bb)) (QB bb) := ⟨w_kT⟩
instance : Stp (mAnd c c' ρ QB) (c ρ fun b => if b = true then c' ρ QB else QB false) := ⟨w_mAnd⟩
instance : Stp (mOr c c' ρ QB) (c ρ fun b => if b = true then QB true else c' ρ QB) := ⟨w_mOr⟩
instance : Stp (mNot c ρ QB) (c ρ fun b => QB (!b)) := ⟨w_mNot⟩
instance : Stp (mYes ρ QB) (QB true) := ⟨w_yes⟩
instance : Stp (eAnd m n ρ Q) (m ρ (kAnd n ρ Q)) := ⟨w_eAnd⟩
instance : Stp (kAnd n ρ Q (.bool bb)) (if bb = true then n ρ Q else Q (.bool false)) := ⟨w_kAnd⟩
instance : Stp (eOr m n ρ Q) (m ρ (kOr n ρ Q)) := ⟨w_eOr⟩
instance : Stp (kOr n ρ Q (.bool bb)) (if bb = true then Q (.bool true) else n ρ Q) := ⟨w_kOr⟩
instance : Stp (eNot m ρ Q) (m ρ (kNot Q)) := ⟨w_eNot⟩
instance : Stp (kNot Q (.bool bb)) (Q (.bool (!bb))) := ⟨w_kNot⟩
instance : Stp (eIf c m n ρ Q) (c ρ fun b => if b = true then m ρ Q else n ρ Q) := ⟨w_eIf⟩
instance : Stp (aNil ρ QL) (QL []) := ⟨w_nil⟩
instance : Stp (aCons m tl ρ QL) (m ρ fun d => tl ρ fun ds => QL (d :: ds)) := ⟨w_cons⟩
instance : Stp (eTup tl ρ Q) (tl ρ fun ds => ds.length ≤ 100000 ∧ Q (.tuple ds)) := ⟨w_tup⟩
instance : Stp (eLst tl ρ Q) (tl ρ fun ds => ds.length ≤ 100000 ∧ Q (.list ds)) := ⟨w_lst⟩
instance : Stp (eCall F tl ρ Q) (tl ρ fun ds => F ds Q) := ⟨w_call⟩
instance : Stp (eCallN k F tl ρ Q) (tl ρ fun ds => ds.length = k ∧ F ds Q) := ⟨w_callN⟩
instance [h : SetR ρ i (.va d) ρ1] : Stp (mgName i d ρ QE) (QE ρ1) := ⟨w_mgName h.e⟩
instance [h : LnR ds k] : Stp (mgTup k gs (.tuple ds) ρ QE) (gs ds ρ QE) := ⟨w_mgTup h.e⟩
instance [h : LnR ds k] : Stp (mgLst k gs (.list ds) ρ QE) (gs ds ρ QE) := ⟨w_mgLst h.e⟩
instance : Stp (mgCons g gs (d :: r) ρ QE) (g d ρ fun ρ2 => gs r ρ2 QE) := ⟨w_mgCons⟩
instance : Stp (mgNil [] ρ QE) (QE ρ) := ⟨w_mgNil⟩
instance : Stp (itL m ρ QL) (m ρ (kItL QL)) := ⟨w_itL⟩
instance : Stp (kItL QL (.list ds)) (QL ds) := ⟨w_kItL⟩
instance : Stp (itT m ρ QL) (m ρ (kItT QL)) := ⟨w_itT⟩
instance : Stp (kItT QL (.tuple ds)) (QL ds) := ⟨w_kItT⟩
instance : Stp (itR1 tl ρ QL) (tl ρ (kR1 QL)) := ⟨w_itR1⟩
instance [h : WipR ρ is ρ1] : Stp (eLc it is g c m ρ Q) (it ρ fun ds => ds.length < 100000 ∧ lcW g c m ρ1 ds [] fun out => Q (.list out)) := ⟨fun q => w_lc (by rw [h.e]; exact q)⟩
instance : Stp (lcW g c m ρ (d :: ds) es QL) (g d ρ fun ρ1 => c ρ1 fun b => if b = true then m ρ1 fun y => lcW g c m ρ ds (es ++ [y]) QL else lcW g c m ρ ds es QL) := ⟨w_lcC⟩
instance [h : ListR es ds] : Stp (lcW g c m ρ [] es QL) (QL ds) := ⟨fun q => w_lcN (by rw [h.e]; exact q)⟩
instance : Stp (oNone ρ QO) (QO none) := ⟨w_oNone⟩
instance : Stp (oSome m ρ QO) (m ρ (kO QO)) := ⟨w_oSome⟩
instance : Stp (kO QO (.int x)) (QO (some x)) := ⟨w_kO⟩
instance : Stp (eSl m lo hi ρ Q) (m ρ fun d => lo ρ fun l => hi ρ fun h => fSl d l h Q) := ⟨w_eSl⟩
instance : Stp (fSl (.list ds) lo1 hi1 Q) (Q (.list (cutD ds lo1 hi1))) := ⟨w_fSlL⟩
instance : Stp (fSl (.tuple ds) lo1 hi1 Q) (Q (.tuple (cutD ds lo1 hi1))) := ⟨w_fSlT⟩
instance : Stp (fAdd (.int x) (.int y) Q) (Q (.int (x + y))) := ⟨w_add⟩
instance : Stp (fSub (.int x) (.int y) Q) (Q (.int (x - y))) := ⟨w_sub⟩
instance : Stp (fLt (.int x) (.int y) Q) (Q (.bool (decide (x < y)))) := ⟨w_lt⟩
instance : Stp (fLe (.int x) (.int y) Q) (Q (.bool (decide (x ≤ y)))) := ⟨w_le⟩
instance : Stp (fGt (.int x) (.int y) Q) (Q (.bool (decide (y < x)))) := ⟨w_gt⟩
instance : Stp (fGe (.int x) (.int y) Q) (Q (.bool (decide (y ≤ x)))) := ⟨w_ge⟩
instance : Stp (fNeg (.int x) Q) (Q (.int (-x))) := ⟨w_neg⟩
instance : Stp (fSubB (.bool bb) (.bool b2) Q) (Q (.int ((if bb = true then 1 else 0) - (if b2 = true then 1 else 0)))) := ⟨w_subB⟩
instance : Stp (fAbs [.int x] Q) (Q (.int (if x < 0 then -x else x))) := ⟨w_abs⟩
instance : Stp (fInt [.int x] Q) (Q (.int x)) := ⟨w_intc⟩
instance : Stp (fTuple [.list ds] Q) (Q (.tuple ds)) := ⟨w_tupL⟩
instance : Stp (fTuple [.tuple ds] Q) (Q (.tuple ds)) := ⟨w_tupT⟩
instance : Stp (fList [.list ds] Q) (Q (.list ds)) := ⟨w_lisL⟩
instance : Stp (fList [.tuple ds] Q) (Q (.list ds)) := ⟨w_lisT⟩
instance : Stp (fIsN .none .none Q) (Q (.bool true)) := ⟨w_isNn⟩
instance : Stp (fIsN (.tuple ds) .none Q) (Q (.bool false)) := ⟨w_isNt⟩
instance : Stp (fIsN (.int x) .none Q) (Q (.bool false)) := ⟨w_isNi⟩
instance : Stp (fNotN .none .none Q) (Q (.bool false)) := ⟨w_notNn⟩
instance : Stp (fNotN (.tuple ds) .none Q) (Q (.bool true)) := ⟨w_notNt⟩
instance : Stp (fNotN (.int x) .none Q) (Q (.bool true)) := ⟨w_notNi⟩
instance : Stp (fIsB (.bool bb) (.bool b2) Q) (Q (.bool (decide (bb = b2)))) := ⟨w_isB⟩
instance : Stp (fNotB (.bool bb) (.bool b2) Q) (Q (.bool (!decide (bb = b2)))) := ⟨w_notB⟩
instance [h : AtR ds x d] : Stp (fIx (.tuple ds) (.int x) Q) (Q d) := ⟨w_ixT h.e⟩
instance [h : AtR ds x d] : Stp (fIx (.list ds) (.int x) Q) (Q d) := ⟨w_ixL h.e⟩
instance [h : IsiR T d bb] : Stp (fIsi T d Q) (Q (.bool bb)) := ⟨fun q => by obtain ⟨a, h1, h2⟩ := h.e; exact w_isi h1 (by rw [h2]; exact q)⟩
instance [h : AllR ds bb] : Stp (fAll [.list ds] Q) (Q (.bool bb)) := ⟨fun q => by obtain ⟨a, h1, h2⟩ := h.e; exact w_all h1 h2 q⟩
instance : Stp (if true = true then A else B) (A) := ⟨w_iteT rfl⟩
instance : Stp (if false = true then A else B) (B) := ⟨w_iteF rfl⟩
instance [h : LnR ds k] : Stp (ds.length = k ∧ A) (A) := ⟨w_and h.e⟩
instance [h : Shrt ds 100000] : Stp (ds.length ≤ 100000 ∧ A) (A) := ⟨w_and h.e⟩
instance [h : Shrt ds 99999] : Stp (ds.length < 100000 ∧ A) (A) := ⟨w_and (Nat.lt_succ_of_le h.e)⟩
instance (priority := 500) : Stp (lcW g c m ρ [] es QL) (QL es) := ⟨w_lcN⟩
instance (priority := 500) : Stp (fLen [.list ds] Q) (Q (.int ds.length)) := ⟨w_lenL⟩
instance (priority := 500) : Stp (fLen [.tuple ds] Q) (Q (.int ds.length)) := ⟨w_lenT⟩
end
section
variable {Q : D → Prop} {a b c d e f g h i j k l : D}
instance : Stp (fLen [.list []] Q) (Q (.int 0)) := ⟨w_lenL (ds := [])⟩
instance : Stp (fLen [.tuple []] Q) (Q (.int 0)) := ⟨w_lenT (ds := [])⟩
instance : Stp (fLen [.list [a]] Q) (Q (.int 1)) := ⟨w_lenL (ds := [a])⟩
instance : Stp (fLen [.tuple [a]] Q) (Q (.int 1)) := ⟨w_lenT (ds := [a])⟩
instance : Stp (fLen [.list [a, b]] Q) (Q (.int 2)) := ⟨w_lenL (ds := [a, b])⟩
instance : Stp (fLen [.tuple [a, b]] Q) (Q (.int 2)) := ⟨w_lenT (ds := [a, b])⟩
instance : Stp (fLen [.list [a, b, c]] Q) (Q (.int 3)) := ⟨w_lenL (ds := [a, b, c])⟩
instance : Stp (fLen [.tuple [a, b, c]] Q) (Q (.int 3)) := ⟨w_lenT (ds := [a, b, c])⟩
instance : Stp (fLen [.list [a, b, c, d]] Q) (Q (.int 4)) := ⟨w_lenL (ds := [a, b, c, d])⟩
instance : Stp (fLen [.tuple [a, b, c, d]] Q) (Q (.int 4)) := ⟨w_lenT (ds := [a, b, c, d])⟩
instance : Stp (fLen [.list [a, b, c, d, e]] Q) (Q (.int 5)) := ⟨w_lenL (ds := [a, b, c, d, e])⟩
instance : Stp (fLen [.tuple [a, b, c, d, e]] Q) (Q (.int 5)) := ⟨w_lenT (ds := [a, b, c, d, e])⟩
instance : Stp (fLen [.list [a, b, c, d, e, f]] Q) (Q (.int 6)) := ⟨w_lenL (ds := [a, b, c, d, e, f])⟩
instance : Stp (fLen [.tuple [a, b, c, d, e, f]] Q) (Q (.int 6)) := ⟨w_lenT (ds := [a, b, c, d, e, f])⟩
instance : Stp (fLen [.list [a, b, c, d, e, f, g]] Q) (Q (.int 7)) := ⟨w_lenL (ds := [a, b, c, d, e, f, g])⟩
instance : Stp (fLen [.tuple [a, b, c, d, e, f, g]] Q) (Q (.int 7)) := ⟨w_lenT (ds := [a, b, c, d, e, f, g])⟩
instance : Stp (fLen [.list [a, b, c, d, e, f, g, h]] Q) (Q (.int 8)) := ⟨w_lenL (ds := [a, b, c, d, e, f, g, h])⟩
instance : Stp (fLen [.tuple [a, b, c, d, e, f, g, h]] Q) (Q (.int 8)) := ⟨w_lenT (ds := [a, b, c, d, e, f, g, h])⟩
instance : Stp (fLen [.list [a, b, c, d, e, f, g, h, i]] Q) (Q (.int 9)) := ⟨w_lenL (ds := [a, b, c, d, e, f, g, h, i])⟩
instance : Stp (fLen [.tuple [a, b, c, d, e, f, g, h, i]] Q) (Q (.int 9)) := ⟨w_lenT (ds := [a, b, c, d, e, f, g, h, i])⟩
instance : Stp (fLen [.list [a, b, c, d, e, f, g, h, i, j]] Q) (Q (.int 10)) := ⟨w_lenL (ds := [a, b, c, d, e, f, g, h, i, j])⟩
instance : Stp (fLen [.tuple [a, b, c, d, e, f, g, h, i, j]] Q) (Q (.int 10)) := ⟨w_lenT (ds := [a, b, c, d, e, f, g, h, i, j])⟩
end
local macro_rules | `(tactic| tb_rel) => `(tactic| with_reducible refine Stp.h ?_)
local macro_rules | `(tactic| f_look) => `(tactic| exact ⟨rfl, rfl⟩)
local macro_rules | `(tactic| canon_of) => `(tactic| with_reducible first
  | refine w_mul ?_ ?_ | refine w_div ?_ ?_ | refine w_mod ?_ ?_ | refine w_pow ?_ ?_ | (refine w_eq ?_ ?_ ?_) | (refine w_ne ?_ ?_ ?_) | refine w_catL ?_ ?_ | refine w_catS ?_ ?_)
local macro_rules | `(tactic| pv_isi_meta) => `(tactic| fail)
local macro_rules | `(tactic| pv_isi_sub_true) => `(tactic| first | exact True.intro | with_reducible exact rfl | decide | exact Nat.le_of_ble_eq_true rfl | exact rfl)
local macro_rules | `(tactic| pv_isi_answer) => `(tactic| first
  | (with_reducible refine w_iteT ?hb ?_; (case hb => decide))
  | (with_reducible refine w_iteF ?hb ?_; (case hb => decide)))
local macro_rules | `(tactic| tb_start) => `(tactic| first
  | ((with_reducible refine w_eq ?h1 ?h2 ?_); (case h1 => f_look); (case h2 => f_look))
  | ((with_reducible refine w_ne ?h1 ?h2 ?_); (case h1 => f_look); (case h2 => f_look))
  | ((with_reducible refine w_kR1 ?h1 ?h2 ?_); (case h1 => decide); (case h2 => decide))
  | (canon_of <;> try first | f_look | pv_isi_meta)
  | pv_isi_answer
  | ((with_reducible refine w_and ?hl ?_); (case hl => pv_isi_sub_true)))
local macro_rules | `(tactic| placed_of0) => `(tactic| repeat (first | tb_rel | tb_start))
local macro_rules | `(tactic| kfm_turns) => `(tactic| repeat ((fail_if_success (with_reducible refine w_seq ?_)); first | tb_rel | tb_start))


/-! ### reals, as far as they are needed: rows of fractions that draw together -/
structure Cs where
  f : Nat → Rat
  bd : ∃ B : Rat, 0 < B ∧ ∀ n, -B ≤ f n ∧ f n ≤ B
  cau : ∀ ε : Rat, 0 < ε → ∃ N, ∀ m n, N ≤ m → N ≤ n → f m - f n ≤ ε
namespace Cs
theorem max_le {M N n : Nat} (h : M + N ≤ n) : M ≤ n ∧ N ≤ n := ⟨by omega, by omega⟩
def cst (q : Rat) : Cs := ⟨fun _ => q, ⟨(if q < 0 then -q else q) + 1, by grind, fun _ => by grind⟩, fun ε h => ⟨0, fun _ _ _ _ => by grind⟩⟩
def add (x y : Cs) : Cs := ⟨fun n => x.f n + y.f n, by
  obtain ⟨B, hB, h⟩ := x.bd
  obtain ⟨C, hC, g⟩ := y.bd
  exact ⟨B + C, by grind, fun n => by have := h n; have := g n; grind⟩, fun ε hε => by
  obtain ⟨N, h⟩ := x.cau (ε / 2) (by grind)
  obtain ⟨M, g⟩ := y.cau (ε / 2) (by grind)
  refine ⟨N + M, fun m n hm hn => ?_⟩
  have := h m n (by omega) (by omega)
  have := g m n (by omega) (by omega)
  grind⟩
def neg (x : Cs) : Cs := ⟨fun n => -x.f n, by
  obtain ⟨B, hB, h⟩ := x.bd
  exact ⟨B, hB, fun n => by have := h n; grind⟩, fun ε hε => by
  obtain ⟨N, h⟩ := x.cau ε hε
  exact ⟨N, fun m n hm hn => by have := h n m hn hm; grind⟩⟩
theorem mul_bd {a b B C : Rat} (hB : 0 < B) (hC : 0 < C) (h1 : -B ≤ a) (h2 : a ≤ B) (h3 : -C ≤ b) (h4 : b ≤ C) : -(B * C) ≤ a * b ∧ a * b ≤ B * C := by
  have e1 : 0 ≤ (B - a) * (C + b) := Rat.mul_nonneg (by grind) (by grind)
  have e2 : 0 ≤ (B + a) * (C - b) := Rat.mul_nonneg (by grind) (by grind)
  have e3 : 0 ≤ (B - a) * (C - b) := Rat.mul_nonneg (by grind) (by grind)
  have e4 : 0 ≤ (B + a) * (C + b) := Rat.mul_nonneg (by grind) (by grind)
  constructor <;> grind
def mul (x y : Cs) : Cs := ⟨fun n => x.f n * y.f n, by
  obtain ⟨B, hB, h⟩ := x.bd
  obtain ⟨C, hC, g⟩ := y.bd
  exact ⟨B * C, Rat.mul_pos hB hC, fun n => mul_bd hB hC (h n).1 (h n).2 (g n).1 (g n).2⟩, fun ε hε => by
  obtain ⟨B, hB, hb⟩ := x.bd
  obtain ⟨C, hC, gb⟩ := y.bd
  have hd : 0 < ε / (2 * (B + C)) := by
    rw [Rat.div_def]
    exact Rat.mul_pos hε (Rat.inv_pos.mpr (by grind))
  obtain ⟨N, h⟩ := x.cau (ε / (2 * (B + C))) hd
  obtain ⟨M, g⟩ := y.cau (ε / (2 * (B + C))) hd
  refine ⟨N + M, fun m n hm hn => ?_⟩
  have h1 := h m n (by omega) (by omega)
  have h2 := h n m (by omega) (by omega)
  have g1 := g m n (by omega) (by omega)
  have g2 := g n m (by omega) (by omega)
  generalize hδ : ε / (2 * (B + C)) = δ at *
  have e : δ * (2 * (B + C)) = ε := by rw [← hδ]; exact Rat.div_mul_cancel (by grind)
  have k1 := (mul_bd hB hd (hb m).1 (hb m).2 (show -δ ≤ y.f m - y.f n by grind) g1).2
  have k2 := (mul_bd hC hd (gb n).1 (gb n).2 (show -δ ≤ x.f m - x.f n by grind) h1).2
  have e2 : x.f m * y.f m - x.f n * y.f n = x.f m * (y.f m - y.f n) + y.f n * (x.f m - x.f n) := by grind
  rw [e2]
  grind⟩
def Pos (x : Cs) : Prop := ∃ ε : Rat, 0 < ε ∧ ∃ N, ∀ n, N ≤ n → ε ≤ x.f n
def Null (x : Cs) : Prop := ∀ ε : Rat, 0 < ε → ∃ N, ∀ n, N ≤ n → -ε ≤ x.f n ∧ x.f n ≤ ε
theorem tri (x : Cs) : Pos x ∨ Null x ∨ Pos (neg x) := by
  by_cases h : Null x
  · exact .inr (.inl h)
  unfold Null at h
  simp only [Classical.not_forall] at h
  obtain ⟨ε, hε, h⟩ := h
  obtain ⟨N, c⟩ := x.cau (ε / 2) (by grind)
  have h2 : ∃ n, N ≤ n ∧ ¬ (-ε ≤ x.f n ∧ x.f n ≤ ε) := by
    refine Classical.byContradiction fun z => h ⟨N, fun n hn => ?_⟩
    exact Classical.byContradiction fun y => z ⟨n, hn, y⟩
  obtain ⟨n, hn, h3⟩ := h2
  by_cases h4 : x.f n ≤ ε
  · refine .inr (.inr ⟨ε / 2, by grind, N, fun m hm => ?_⟩)
    show ε / 2 ≤ -x.f m
    have := c m n hm hn
    have := c n m hn hm
    grind
  · refine .inl ⟨ε / 2, by grind, N, fun m hm => ?_⟩
    have := c m n hm hn
    have := c n m hn hm
    grind
theorem pos_null {x : Cs} (h : Pos x) : ¬ Null x := fun g => by
  obtain ⟨ε, hε, N, h⟩ := h
  obtain ⟨M, g⟩ := g (ε / 2) (by grind)
  have := h (N + M) (by omega)
  have := (g (N + M) (by omega)).2
  grind
theorem pos_neg {x : Cs} (h : Pos x) : ¬ Pos (neg x) := fun g => by
  obtain ⟨ε, hε, N, h⟩ := h
  obtain ⟨δ, hδ, M, g⟩ := g
  have := h (N + M) (by omega)
  have : δ ≤ -x.f (N + M) := g (N + M) (by omega)
  grind
theorem pos_add {x y : Cs} (h : Pos x) (g : Pos y) : Pos (add x y) := by
  obtain ⟨ε, hε, N, h⟩ := h
  obtain ⟨δ, hδ, M, g⟩ := g
  refine ⟨ε + δ, by grind, N + M, fun n hn => ?_⟩
  show ε + δ ≤ x.f n + y.f n
  have := h n (by omega)
  have := g n (by omega)
  grind
theorem pos_mul {x y : Cs} (h : Pos x) (g : Pos y) : Pos (mul x y) := by
  obtain ⟨ε, hε, N, h⟩ := h
  obtain ⟨δ, hδ, M, g⟩ := g
  refine ⟨ε * δ, Rat.mul_pos hε hδ, N + M, fun n hn => ?_⟩
  show ε * δ ≤ x.f n * y.f n
  have h1 := h n (by omega)
  have g1 := g n (by omega)
  have e1 : 0 ≤ (x.f n - ε) * δ := Rat.mul_nonneg (by grind) (by grind)
  have e2 : 0 ≤ x.f n * (y.f n - δ) := Rat.mul_nonneg (by grind) (by grind)
  grind
theorem pos_of {x y : Cs} (h : Pos x) (g : Null (add x (neg y))) : Pos y := by
  obtain ⟨ε, hε, N, h⟩ := h
  obtain ⟨M, g⟩ := g (ε / 2) (by grind)
  refine ⟨ε / 2, by grind, N + M, fun n hn => ?_⟩
  have := h n (by omega)
  have : x.f n + -y.f n ≤ ε / 2 := (g n (by omega)).2
  grind
theorem null_of {x y : Cs} (e : ∀ n, x.f n = y.f n) : Null (add x (neg y)) := fun ε hε => ⟨0, fun n _ => by
  have : (add x (neg y)).f n = x.f n + -y.f n := rfl
  rw [this, e n]
  grind⟩
theorem null_neg {x : Cs} (h : Null x) : Null (neg x) := fun ε hε => by
  obtain ⟨N, h⟩ := h ε hε
  refine ⟨N, fun n hn => ?_⟩
  have := h n hn
  show -ε ≤ -x.f n ∧ -x.f n ≤ ε
  grind
theorem null_add {x y : Cs} (h : Null x) (g : Null y) : Null (add x y) := fun ε hε => by
  obtain ⟨N, h⟩ := h (ε / 2) (by grind)
  obtain ⟨M, g⟩ := g (ε / 2) (by grind)
  refine ⟨N + M, fun n hn => ?_⟩
  have := h n (by omega)
  have := g n (by omega)
  show -ε ≤ x.f n + y.f n ∧ x.f n + y.f n ≤ ε
  grind
theorem null_mul {x y : Cs} (h : Null x) : Null (mul x y) := fun ε hε => by
  obtain ⟨B, hB, hb⟩ := y.bd
  have hd : 0 < ε / B := by
    rw [Rat.div_def]
    exact Rat.mul_pos hε (Rat.inv_pos.mpr hB)
  obtain ⟨N, h⟩ := h (ε / B) hd
  refine ⟨N, fun n hn => ?_⟩
  have e : ε / B * B = ε := Rat.div_mul_cancel (by grind)
  have := mul_bd hd hB (h n hn).1 (h n hn).2 (hb n).1 (hb n).2
  rw [e] at this
  exact this
theorem null_congr {x y : Cs} (h : Null x) (e : ∀ n, x.f n = y.f n) : Null y := fun ε hε => by
  obtain ⟨N, h⟩ := h ε hε
  exact ⟨N, fun n hn => by rw [← e n]; exact h n hn⟩
instance st : Setoid Cs where
  r x y := Null (add x (neg y))
  iseqv := ⟨fun x => null_of fun _ => rfl, fun {x y} h => null_congr (null_neg h) fun n => by show -(x.f n + -y.f n) = y.f n + -x.f n; grind, fun {x y z} h g => null_congr (null_add h g) fun n => by
    show x.f n + -y.f n + (y.f n + -z.f n) = x.f n + -z.f n
    grind⟩
theorem add_congr {x x' y y' : Cs} (h : x ≈ x') (g : y ≈ y') : add x y ≈ add x' y' := null_congr (null_add h g) fun n => by
  show x.f n + -x'.f n + (y.f n + -y'.f n) = x.f n + y.f n + -(x'.f n + y'.f n)
  grind
theorem neg_congr {x x' : Cs} (h : x ≈ x') : neg x ≈ neg x' := null_congr (null_neg h) fun n => by
  show -(x.f n + -x'.f n) = -x.f n + -(-x'.f n)
  grind
theorem mul_congr {x x' y y' : Cs} (h : x ≈ x') (g : y ≈ y') : mul x y ≈ mul x' y' := null_congr (null_add (null_mul (y := y) h) (null_mul (y := x') g)) fun n => by
  show (x.f n + -x'.f n) * y.f n + (y.f n + -y'.f n) * x'.f n = x.f n * y.f n + -(x'.f n * y'.f n)
  grind
theorem pos_congr {x y : Cs} (h : x ≈ y) : Pos x = Pos y := propext ⟨fun a => pos_of a h, fun a => pos_of a (st.iseqv.symm h)⟩
end Cs
def Rl : Type := Quotient Cs.st
namespace Rl
def mk (x : Cs) : Rl := Quotient.mk _ x
theorem ind {P : Rl → Prop} (h : ∀ x, P (mk x)) : ∀ x, P x := fun x => Quotient.ind h x
theorem eq_of {x y : Cs} (e : ∀ n, x.f n = y.f n) : mk x = mk y := Quotient.sound (Cs.null_of e)
def q (r : Rat) : Rl := mk (Cs.cst r)
def add : Rl → Rl → Rl := Quotient.lift₂ (fun x y => mk (Cs.add x y)) fun _ _ _ _ h g => Quotient.sound (Cs.add_congr h g)
def mul : Rl → Rl → Rl := Quotient.lift₂ (fun x y => mk (Cs.mul x y)) fun _ _ _ _ h g => Quotient.sound (Cs.mul_congr h g)
def neg : Rl → Rl := Quotient.lift (fun x => mk (Cs.neg x)) fun _ _ h => Quotient.sound (Cs.neg_congr h)
def Pos : Rl → Prop := Quotient.lift Cs.Pos fun _ _ h => Cs.pos_congr h
def lt (x y : Rl) : Prop := Pos (add y (neg x))
instance : LT Rl := ⟨lt⟩
instance : LE Rl := ⟨fun x y => ¬ lt y x⟩
def npow (x : Rl) : Nat → Rl
  | 0 => q 1
  | n + 1 => mul (npow x n) x
instance : Lean.Grind.CommRing Rl where
  add := add
  mul := mul
  neg := neg
  sub x y := add x (neg y)
  natCast := ⟨fun n => q n⟩
  intCast := ⟨fun n => q n⟩
  ofNat n := ⟨q n⟩
  nsmul := ⟨fun n x => mul (q n) x⟩
  zsmul := ⟨fun n x => mul (q n) x⟩
  npow := ⟨npow⟩
  add_zero := ind fun x => eq_of fun n => by show x.f n + ((0 : Nat) : Rat) = x.f n; grind
  add_comm := ind fun x => ind fun y => eq_of fun n => by show x.f n + y.f n = y.f n + x.f n; grind
  add_assoc := ind fun x => ind fun y => ind fun z => eq_of fun n => by show x.f n + y.f n + z.f n = x.f n + (y.f n + z.f n); grind
  mul_assoc := ind fun x => ind fun y => ind fun z => eq_of fun n => by show x.f n * y.f n * z.f n = x.f n * (y.f n * z.f n); grind
  mul_comm := ind fun x => ind fun y => eq_of fun n => by show x.f n * y.f n = y.f n * x.f n; grind
  mul_one := ind fun x => eq_of fun n => by show x.f n * ((1 : Nat) : Rat) = x.f n; grind
  one_mul := ind fun x => eq_of fun n => by show ((1 : Nat) : Rat) * x.f n = x.f n; grind
  left_distrib := ind fun x => ind fun y => ind fun z => eq_of fun n => by show x.f n * (y.f n + z.f n) = x.f n * y.f n + x.f n * z.f n; grind
  right_distrib := ind fun x => ind fun y => ind fun z => eq_of fun n => by show (x.f n + y.f n) * z.f n = x.f n * z.f n + y.f n * z.f n; grind
  zero_mul := ind fun x => eq_of fun n => by show ((0 : Nat) : Rat) * x.f n = ((0 : Nat) : Rat); grind
  mul_zero := ind fun x => eq_of fun n => by show x.f n * ((0 : Nat) : Rat) = ((0 : Nat) : Rat); grind
  pow_zero x := eq_of fun n => by show (1 : Rat) = ((1 : Nat) : Rat); rfl
  pow_succ x n := rfl
  ofNat_succ n := eq_of fun _ => by show ((n + 1 : Nat) : Rat) = (n : Rat) + ((1 : Nat) : Rat); rw [Rat.natCast_add]
  neg_add_cancel := ind fun x => eq_of fun n => by show -x.f n + x.f n = ((0 : Nat) : Rat); grind
  sub_eq_add_neg _ _ := rfl
  neg_zsmul i := ind fun x => eq_of fun n => by show ((-i : Int) : Rat) * x.f n = -((i : Rat) * x.f n); rw [Rat.intCast_neg]; grind
  intCast_neg i := eq_of fun n => by show ((-i : Int) : Rat) = -(i : Rat); rw [Rat.intCast_neg]
theorem lt_def (x y : Rl) : x < y ↔ Pos (y - x) := Iff.rfl
theorem le_def (x y : Rl) : x ≤ y ↔ ¬ y < x := Iff.rfl
theorem tri (x : Rl) : Pos x ∨ x = 0 ∨ Pos (-x) := by
  revert x
  refine ind fun x => ?_
  rcases Cs.tri x with h | h | h
  · exact .inl h
  · refine .inr (.inl (Quotient.sound ?_))
    exact Cs.null_congr h fun n => by show x.f n = x.f n + -((0 : Nat) : Rat); grind
  · exact .inr (.inr h)
theorem pos_neg {x : Rl} : Pos x → ¬ Pos (-x) := ind (P := fun x => Pos x → ¬ Pos (-x)) (fun x => Cs.pos_neg) x
theorem pos_zero : ¬ Pos (0 : Rl) := fun h => by
  have := pos_neg h
  rw [show -(0 : Rl) = 0 by grind] at this
  exact this h
theorem pos_add {x y : Rl} : Pos x → Pos y → Pos (x + y) := ind (P := fun x => ∀ y, Pos x → Pos y → Pos (x + y)) (fun x => ind fun y => Cs.pos_add) x y
theorem pos_mul {x y : Rl} : Pos x → Pos y → Pos (x * y) := ind (P := fun x => ∀ y, Pos x → Pos y → Pos (x * y)) (fun x => ind fun y => Cs.pos_mul) x y
theorem lt_tri (x y : Rl) : x < y ∨ x = y ∨ y < x := by
  rcases tri (y - x) with h | h | h
  · exact .inl h
  · exact .inr (.inl (by grind))
  · refine .inr (.inr ?_)
    rw [lt_def, show x - y = -(y - x) by grind]
    exact h
theorem lt_irrefl (x : Rl) : ¬ x < x := fun h => by
  rw [lt_def, show x - x = 0 by grind] at h
  exact pos_zero h
theorem lt_trans {x y z : Rl} (h : x < y) (g : y < z) : x < z := by
  rw [lt_def] at *
  have := pos_add h g
  rw [show y - x + (z - y) = z - x by grind] at this
  exact this
theorem lt_asymm {x y : Rl} (h : x < y) : ¬ y < x := fun g => lt_irrefl x (lt_trans h g)
theorem le_iff {x y : Rl} : x ≤ y ↔ x < y ∨ x = y := by
  rw [le_def]
  constructor
  · intro h
    rcases lt_tri x y with a | a | a
    · exact .inl a
    · exact .inr a
    · exact (h a).elim
  · rintro (h | rfl)
    · exact lt_asymm h
    · exact lt_irrefl x
instance : Std.IsLinearOrder Rl where
  le_refl x := lt_irrefl x
  le_trans x y z h g := by
    rcases le_iff.mp h with h | rfl
    · rcases le_iff.mp g with g | rfl
      · exact le_iff.mpr (.inl (lt_trans h g))
      · exact le_iff.mpr (.inl h)
    · exact g
  le_antisymm x y h g := by
    rcases lt_tri x y with a | a | a
    · exact (g a).elim
    · exact a
    · exact (h a).elim
  le_total x y := by
    rcases lt_tri x y with a | a | a
    · exact .inl (le_iff.mpr (.inl a))
    · exact .inl (le_iff.mpr (.inr a))
    · exact .inr (le_iff.mpr (.inl a))
instance : Std.LawfulOrderLT Rl where
  lt_iff x y := ⟨fun h => ⟨lt_asymm h, fun g => g h⟩, fun h => Classical.byContradiction fun z => h.2 z⟩
theorem add_lt {x y : Rl} (z : Rl) : x < y ↔ x + z < y + z := by
  rw [lt_def, lt_def, show y + z - (x + z) = y - x by grind]
instance : Lean.Grind.OrderedAdd Rl where
  add_le_left_iff {x y} z := by rw [le_def, le_def, add_lt z]
theorem mul_lt {x y z : Rl} (h : x < y) (hz : 0 < z) : z * x < z * y := by
  rw [lt_def] at *
  rw [show z - 0 = z by grind] at hz
  rw [show z * y - z * x = z * (y - x) by grind]
  exact pos_mul hz h
theorem q_pos {r : Rat} : Pos (q r) ↔ 0 < r := by
  constructor
  · rintro ⟨ε, hε, N, h⟩
    have : ε ≤ r := h N (Nat.le_refl _)
    grind
  · intro h
    exact ⟨r, h, 0, fun _ _ => Rat.le_refl⟩
theorem q_add (r s : Rat) : q (r + s) = q r + q s := eq_of fun _ => rfl
theorem q_mul (r s : Rat) : q (r * s) = q r * q s := eq_of fun _ => rfl
theorem q_neg (r : Rat) : q (-r) = -q r := eq_of fun _ => rfl
theorem q_sub (r s : Rat) : q (r - s) = q r - q s := eq_of fun _ => by show r - s = r + -s; grind
theorem q_nat (n : Nat) : q ((n : Nat) : Rat) = ((OfNat.ofNat n : Rl)) := rfl
theorem q_zero : q 0 = 0 := rfl
theorem q_one : q 1 = 1 := rfl
theorem q_two : q 2 = 2 := rfl
instance : Lean.Grind.OrderedRing Rl where
  zero_lt_one := by
    rw [lt_def, ← q_one, ← q_zero, ← q_sub]
    exact q_pos.mpr (by grind)
  mul_lt_mul_of_pos_left := mul_lt
  mul_lt_mul_of_pos_right {a b c} h hz := by
    have := mul_lt h hz
    rw [show a * c = c * a by grind, show b * c = c * b by grind]
    exact this
theorem q_lt {r s : Rat} : q r < q s ↔ r < s := by
  rw [lt_def, ← q_sub, q_pos]
  grind
theorem q_le {r s : Rat} : q r ≤ q s ↔ r ≤ s := by
  rw [le_def, q_lt]
  grind
theorem q_inj {r s : Rat} : q r = q s ↔ r = s := by
  constructor
  · intro h
    have h1 : q r ≤ q s := by grind
    have h2 : q s ≤ q r := by grind
    rw [q_le] at h1 h2
    grind
  · intro h; rw [h]
end Rl

/-! ### square roots of fractions -/
namespace Cs
theorem root_ex (t : Rat) (h : 0 ≤ t) : ∃ k : Nat, (k : Rat) * (k : Rat) ≤ t ∧ t < ((k : Rat) + 1) * ((k : Rat) + 1) := by
  have key : ∀ N : Nat, t < (N : Rat) * (N : Rat) → ∃ k : Nat, (k : Rat) * (k : Rat) ≤ t ∧ t < ((k : Rat) + 1) * ((k : Rat) + 1) := by
    intro N
    induction N with
    | zero => intro z; grind
    | succ N ih =>
      intro z
      by_cases g : t < (N : Rat) * (N : Rat)
      · exact ih g
      · exact ⟨N, by grind, by rw [Rat.natCast_add] at z; exact z⟩
  refine key (t.num.natAbs + 1) ?_
  have e : t ≤ (t.num.natAbs : Rat) := by
    rw [Rat.le_iff]
    have h1 : 0 ≤ t.num := Rat.num_nonneg.mpr h
    show t.num * 1 ≤ ((t.num.natAbs : Nat) : Int) * (t.den : Int)
    have h2 : ((t.num.natAbs : Nat) : Int) = t.num := by omega
    rw [h2]
    exact Int.mul_le_mul_of_nonneg_left (by have := t.den_pos; omega) h1
  have n0 : (0 : Rat) ≤ (t.num.natAbs : Rat) := by grind
  rw [Rat.natCast_add]
  generalize ((t.num.natAbs : Nat) : Rat) = M at *
  have e2 : 0 ≤ M * M := Rat.mul_nonneg n0 n0
  have e3 : ((1 : Nat) : Rat) = 1 := rfl
  rw [e3]
  grind
def hf : Nat → Rat
  | 0 => 1
  | n + 1 => hf n / 2
theorem hf_pos : ∀ n, 0 < hf n
  | 0 => by show (0 : Rat) < 1; grind
  | n + 1 => by have := hf_pos n; show 0 < hf n / 2; grind
theorem hf_le : ∀ {m n : Nat}, m ≤ n → hf n ≤ hf m := by
  intro m n h
  induction n with
  | zero => rw [show m = 0 by omega]; grind
  | succ n ih =>
    by_cases e : m = n + 1
    · rw [e]; grind
    · have := ih (by omega)
      have := hf_pos n
      show hf n / 2 ≤ hf m
      grind
theorem hf_small (ε : Rat) (h : 0 < ε) : ∃ N, hf N ≤ ε := by
  have key : ∀ n : Nat, hf n * ((n : Rat) + 1) ≤ 1 := by
    intro n
    induction n with
    | zero => show (1 : Rat) * ((0 : Nat) + 1 : Rat) ≤ 1; grind
    | succ n ih =>
      have h1 := hf_pos n
      have h2 : (0 : Rat) ≤ (n : Rat) := by grind
      have h3 : 0 ≤ hf n * (n : Rat) := Rat.mul_nonneg (by grind) h2
      show hf n / 2 * (((n + 1 : Nat) : Rat) + 1) ≤ 1
      rw [Rat.natCast_add]
      have e3 : ((1 : Nat) : Rat) = 1 := rfl
      rw [e3]
      generalize hf n = x at *
      generalize (n : Rat) = y at *
      grind
  have h1 := key ε.den
  have h2 : 1 ≤ ε * (ε.den : Rat) := by
    have h4 : ε * (ε.den : Rat) = (ε.num : Rat) := by
      have h5 := Rat.num_divInt_den ε
      rw [Rat.divInt_eq_div] at h5
      have h6 : ((ε.den : Int) : Rat) ≠ 0 := fun z => ε.den_nz (by rw [Rat.intCast_eq_zero_iff] at z; omega)
      have h7 := Rat.div_mul_cancel (a := (ε.num : Rat)) h6
      rw [h5] at h7
      exact h7
    rw [h4]
    have h8 : 0 ≤ ε.num := Rat.num_nonneg.mpr (by grind)
    have h9 : ε.num ≠ 0 := fun z => by
      have := Rat.num_eq_zero.mp z
      grind
    have h10 : (1 : Int) ≤ ε.num := by omega
    exact Rat.intCast_le_intCast.mpr h10
  refine ⟨ε.den, ?_⟩
  have h3 := hf_pos ε.den
  have h4 : (0 : Rat) ≤ (ε.den : Rat) := by grind
  generalize hf ε.den = x at *
  generalize (ε.den : Rat) = y at *
  refine Classical.byContradiction fun z => ?_
  have h5 : ε < x := by grind
  have h6 : 0 ≤ (x - ε) * y := Rat.mul_nonneg (by grind) h4
  grind
theorem hf_le1 (n : Nat) : hf n ≤ 1 := hf_le (Nat.zero_le n)
theorem lt_of_sq {a b : Rat} (ha : 0 ≤ a) (hb : 0 ≤ b) (h : a * a < b * b) : a < b := by
  refine Classical.byContradiction fun z => ?_
  have h1 : 0 ≤ (a - b) * (a + b) := Rat.mul_nonneg (by grind) (by grind)
  grind
/-- fractions whose squares come near c from below -/
theorem near_ex (c : Rat) (h : 0 ≤ c) (n : Nat) : ∃ s : Rat, 0 ≤ s ∧ s * s ≤ c ∧ c < (s + hf n) * (s + hf n) := by
  have hp := hf_pos n
  have hq : 0 < (hf n)⁻¹ := Rat.inv_pos.mpr hp
  have hi : hf n * (hf n)⁻¹ = 1 := Rat.mul_inv_cancel _ (by grind)
  have h0 : 0 ≤ c * ((hf n)⁻¹ * (hf n)⁻¹) := Rat.mul_nonneg h (Rat.mul_nonneg (by grind) (by grind))
  obtain ⟨k, k1, k2⟩ := root_ex _ h0
  have hk : (0 : Rat) ≤ (k : Rat) := by grind
  have hp2 : 0 < hf n * hf n := Rat.mul_pos hp hp
  generalize hf n = x at *
  generalize x⁻¹ = y at *
  generalize (k : Rat) = m at *
  have e1 := Rat.mul_le_mul_of_nonneg_right k1 (show 0 ≤ x * x by grind)
  have e2 := Rat.mul_lt_mul_of_pos_right k2 hp2
  have e3 : c * (y * y) * (x * x) = c := by
    have : c * (y * y) * (x * x) = c * ((x * y) * (x * y)) := by grind
    rw [this, hi]; grind
  rw [e3] at e1 e2
  exact ⟨m * x, Rat.mul_nonneg hk (by grind), by grind, by grind⟩
noncomputable def nr (c : Rat) (n : Nat) : Rat := if h : 0 ≤ c then (near_ex c h n).choose else 0
theorem nr_spec {c : Rat} (h : 0 ≤ c) (n : Nat) : 0 ≤ nr c n ∧ nr c n * nr c n ≤ c ∧ c < (nr c n + hf n) * (nr c n + hf n) := by
  unfold nr
  rw [dif_pos h]
  exact (near_ex c h n).choose_spec
theorem nr_le {c : Rat} (h : 0 ≤ c) (n : Nat) : nr c n ≤ c + 1 := by
  obtain ⟨h1, h2, _⟩ := nr_spec h n
  have : nr c n * nr c n < (c + 1) * (c + 1) := by
    have : 0 ≤ c * c := Rat.mul_nonneg h h
    grind
  have := lt_of_sq h1 (by grind) this
  grind
noncomputable def root (c : Rat) (h : 0 ≤ c) : Cs := ⟨nr c, ⟨c + 1, by grind, fun n => ⟨by have := (nr_spec h n).1; grind, nr_le h n⟩⟩, fun ε hε => by
  obtain ⟨N, hN⟩ := hf_small ε hε
  refine ⟨N, fun m n _ hn => ?_⟩
  obtain ⟨a1, a2, _⟩ := nr_spec h m
  obtain ⟨b1, _, b3⟩ := nr_spec h n
  have := hf_pos n
  have := lt_of_sq a1 (show 0 ≤ nr c n + hf n by grind) (by grind)
  have := hf_le hn
  grind⟩
end Cs
namespace Rl
/-- the root of a fraction that is not below nothing -/
noncomputable def sq (c : Rat) : Rl := if h : 0 ≤ c then mk (Cs.root c h) else 0
theorem sq_nonneg (c : Rat) : 0 ≤ sq c := by
  unfold sq
  split
  · rename_i h
    intro z
    obtain ⟨ε, hε, N, z⟩ := (show Pos (0 - mk (Cs.root c h)) from z)
    have : ε ≤ ((0 : Nat) : Rat) + -Cs.nr c N := z N (Nat.le_refl _)
    have := (Cs.nr_spec h N).1
    grind
  · grind
theorem sq_mul {c : Rat} (h : 0 ≤ c) : sq c * sq c = q c := by
  unfold sq
  rw [dif_pos h]
  refine Quotient.sound fun ε hε => ?_
  have hd : 0 < ε / (2 * c + 3) := by
    rw [Rat.div_def]
    exact Rat.mul_pos hε (Rat.inv_pos.mpr (by grind))
  obtain ⟨N, hN⟩ := Cs.hf_small _ hd
  refine ⟨N, fun n hn => ?_⟩
  show -ε ≤ Cs.nr c n * Cs.nr c n + -c ∧ Cs.nr c n * Cs.nr c n + -c ≤ ε
  obtain ⟨b1, b2, b3⟩ := Cs.nr_spec h n
  have h1 := Cs.nr_le h n
  have h2 := Cs.hf_pos n
  have h3 := Cs.hf_le1 n
  have h4 := Cs.hf_le hn
  have e : ε / (2 * c + 3) * (2 * c + 3) = ε := Rat.div_mul_cancel (by grind)
  generalize ε / (2 * c + 3) = δ at *
  generalize Cs.nr c n = s at *
  generalize Cs.hf n = x at *
  have k1 : 0 ≤ (c + 1 - s) * x := Rat.mul_nonneg (by grind) (by grind)
  have k2 : 0 ≤ (1 - x) * x := Rat.mul_nonneg (by grind) (by grind)
  have k3 : 0 ≤ (δ - x) * (2 * c + 3) := Rat.mul_nonneg (by grind) (by grind)
  constructor <;> grind
end Rl


/-! ### signs -/
def sgn (r : Rat) : Int := r.num.sign
theorem sgn_pos {r : Rat} (h : 0 < r) : sgn r = 1 := by
  refine Int.sign_eq_one_of_pos ?_
  have h1 : 0 ≤ r.num := Rat.num_nonneg.mpr (by grind)
  have h2 : r.num ≠ 0 := fun z => by
    have := Rat.num_eq_zero.mp z
    grind
  omega
theorem sgn_neg' (r : Rat) : sgn (-r) = -sgn r := by
  unfold sgn
  rw [Rat.neg_num, Int.sign_neg]
theorem sgn_neg {r : Rat} (h : r < 0) : sgn r = -1 := by
  have := sgn_pos (r := -r) (by grind)
  rw [sgn_neg'] at this
  omega
theorem sgn_zero : sgn 0 = 0 := rfl
noncomputable def sr (x : Rl) : Int := open Classical in if 0 < x then 1 else if x = 0 then 0 else -1
theorem sr_pos {x : Rl} (h : 0 < x) : sr x = 1 := by unfold sr; rw [if_pos h]
theorem sr_zero : sr 0 = 0 := by
  unfold sr
  rw [if_neg (by grind), if_pos rfl]
theorem sr_neg {x : Rl} (h : x < 0) : sr x = -1 := by
  unfold sr
  rw [if_neg (by grind), if_neg (by grind)]
theorem sr_cases (x : Rl) : (sr x = 1 ∧ 0 < x) ∨ (sr x = 0 ∧ x = 0) ∨ (sr x = -1 ∧ x < 0) := by
  rcases Rl.lt_tri 0 x with h | h | h
  · exact .inl ⟨sr_pos h, h⟩
  · exact .inr (.inl ⟨by rw [← h]; exact sr_zero, h.symm⟩)
  · exact .inr (.inr ⟨sr_neg h, h⟩)
theorem Rl.mul_pos {x y : Rl} (h : 0 < x) (g : 0 < y) : 0 < x * y := by
  have := Rl.mul_lt g h
  grind
theorem sr_mul (x y : Rl) : sr (x * y) = sr x * sr y := by
  rcases sr_cases x with ⟨e, h⟩ | ⟨e, h⟩ | ⟨e, h⟩
  · rcases sr_cases y with ⟨e2, g⟩ | ⟨e2, g⟩ | ⟨e2, g⟩
    · rw [e, e2, sr_pos (Rl.mul_pos h g)]; rfl
    · rw [e, e2, g, show x * 0 = 0 by grind, sr_zero]; rfl
    · rw [e, e2, sr_neg (by have := Rl.mul_pos h (y := -y) (by grind); grind)]; rfl
  · rw [e, h, show 0 * y = 0 by grind, sr_zero, Int.zero_mul]
  · rcases sr_cases y with ⟨e2, g⟩ | ⟨e2, g⟩ | ⟨e2, g⟩
    · rw [e, e2, sr_neg (by have := Rl.mul_pos (x := -x) (by grind) g; grind)]; rfl
    · rw [e, e2, g, show x * 0 = 0 by grind, sr_zero]; rfl
    · rw [e, e2, sr_pos (by have := Rl.mul_pos (x := -x) (y := -y) (by grind) (by grind); grind)]; rfl
theorem sr_q (r : Rat) : sr (Rl.q r) = sgn r := by
  rcases Rat.lt_trichotomy' r with h | h | h
  · rw [sgn_neg h, sr_neg (by rw [← Rl.q_zero, Rl.q_lt]; exact h)]
  · rw [h, sgn_zero, Rl.q_zero, sr_zero]
  · rw [sgn_pos h, sr_pos (by rw [← Rl.q_zero, Rl.q_lt]; exact h)]
where Rat.lt_trichotomy' (r : Rat) : r < 0 ∨ r = 0 ∨ 0 < r := by grind
theorem sr_neg' (x : Rl) : sr (-x) = -sr x := by
  rw [show -x = (-1) * x by grind, sr_mul, sr_neg (show (-1 : Rl) < 0 by grind)]
  omega
/-- a + b * root c -/
noncomputable def val (a b c : Rat) : Rl := Rl.q a + Rl.q b * Rl.sq c
def sg1 (a b c : Rat) : Int :=
  let s := sgn a
  let t := if c = 0 then 0 else sgn b
  if s = t ∨ t = 0 then s else if s = 0 then t else s * sgn (a * a - b * b * c)
theorem sq_zero : Rl.sq 0 = 0 := by
  have h := Rl.sq_mul (c := 0) (by grind)
  rw [Rl.q_zero] at h
  have g := Rl.sq_nonneg 0
  rcases sr_cases (Rl.sq 0) with ⟨e, h2⟩ | ⟨e, h2⟩ | ⟨e, h2⟩
  · have := Rl.mul_pos h2 h2
    grind
  · exact h2
  · grind
theorem sq_pos {c : Rat} (h : 0 < c) : 0 < Rl.sq c := by
  have h1 := Rl.sq_mul (c := c) (by grind)
  have g := Rl.sq_nonneg c
  rcases sr_cases (Rl.sq c) with ⟨e, h2⟩ | ⟨e, h2⟩ | ⟨e, h2⟩
  · exact h2
  · rw [h2, show (0 : Rl) * 0 = Rl.q 0 by rw [Rl.q_zero]; grind, Rl.q_inj] at h1
    grind
  · grind
theorem sg1_val {a b c : Rat} (hc : 0 ≤ c) : sg1 a b c = sr (val a b c) := by
  unfold sg1 val
  by_cases h0 : c = 0
  · subst h0
    rw [if_pos rfl]
    simp only [or_true, if_true]
    rw [sq_zero, show Rl.q a + Rl.q b * 0 = Rl.q a by grind, sr_q]
  · rw [if_neg h0]
    have hs := sq_pos (c := c) (by grind)
    have hm := Rl.sq_mul hc
    have ea := sr_q a
    have eb := sr_q b
    have eg : sgn (a * a - b * b * c) = sr (Rl.q a + Rl.q b * Rl.sq c) * sr (Rl.q a - Rl.q b * Rl.sq c) := by
      rw [← sr_q, ← sr_mul, Rl.q_sub, Rl.q_mul, Rl.q_mul, Rl.q_mul, ← hm]
      congr 1
      grind
    rw [eg, ← ea, ← eb]
    generalize Rl.q a = A at *
    generalize Rl.q b = B at *
    generalize Rl.sq c = s at *
    have pm : ∀ {y : Rl}, 0 < y → 0 < y * s := fun h => Rl.mul_pos h hs
    rcases sr_cases A with ⟨e1, h1⟩ | ⟨e1, h1⟩ | ⟨e1, h1⟩ <;> rcases sr_cases B with ⟨e2, h2⟩ | ⟨e2, h2⟩ | ⟨e2, h2⟩ <;> rw [e1, e2]
    · have := pm h2
      rw [sr_pos (show 0 < A + B * s by grind)]; rfl
    · rw [h2, show A + 0 * s = A by grind, e1]; rfl
    · have := pm (y := -B) (by grind)
      rw [sr_pos (show 0 < A - B * s by grind)]
      simp
    · have := pm h2
      rw [sr_pos (show 0 < A + B * s by grind)]; rfl
    · rw [h1, h2, show (0 : Rl) + 0 * s = 0 by grind, sr_zero]; rfl
    · have := pm (y := -B) (by grind)
      rw [sr_neg (show A + B * s < 0 by grind)]; rfl
    · have := pm h2
      rw [sr_neg (show A - B * s < 0 by grind)]
      simp
    · rw [h2, show A + 0 * s = A by grind, e1]; rfl
    · have := pm (y := -B) (by grind)
      rw [sr_neg (show A + B * s < 0 by grind)]; rfl
def sg2 (a b c d e : Rat) : Int :=
  if d = 0 ∨ e = 0 then sg1 a b c
  else
    let l := sg1 a b c
    let r := sgn d
    if l = 0 ∨ l = r then r else l * sg1 (a * a + b * b * c - d * d * e) (2 * (a * b)) c
theorem sg2_val {a b c d e : Rat} (hc : 0 ≤ c) (he : 0 ≤ e) : sg2 a b c d e = sr (val a b c + Rl.q d * Rl.sq e) := by
  unfold sg2
  by_cases h0 : d = 0 ∨ e = 0
  · rw [if_pos h0, sg1_val hc]
    congr 1
    rcases h0 with h | h
    · rw [h, Rl.q_zero]; grind
    · rw [h, sq_zero]; grind
  · rw [if_neg h0]
    have hd : d ≠ 0 := fun z => h0 (.inl z)
    have he0 : e ≠ 0 := fun z => h0 (.inr z)
    have hs := sq_pos (c := e) (by grind)
    have hm := Rl.sq_mul he
    have hm2 := Rl.sq_mul hc
    have eg : sg1 (a * a + b * b * c - d * d * e) (2 * (a * b)) c = sr (val a b c + Rl.q d * Rl.sq e) * sr (val a b c - Rl.q d * Rl.sq e) := by
      rw [sg1_val hc, ← sr_mul]
      congr 1
      unfold val
      rw [Rl.q_sub, Rl.q_add, Rl.q_mul, Rl.q_mul, Rl.q_mul, Rl.q_mul, Rl.q_mul, Rl.q_mul, Rl.q_mul, ← hm, ← hm2, Rl.q_two]
      grind
    simp only [eg, sg1_val hc]
    have ed : sgn d = sr (Rl.q d * Rl.sq e) := by rw [sr_mul, sr_q, sr_pos hs, Int.mul_one]
    have hdn : Rl.q d * Rl.sq e ≠ 0 := fun z => by
      have : sgn d = 0 := by rw [ed, z, sr_zero]
      have h1 : d.num = 0 := Int.sign_eq_zero_iff_zero.mp this
      exact hd (Rat.num_eq_zero.mp h1)
    rw [ed]
    generalize val a b c = A at *
    generalize Rl.q d * Rl.sq e = B at *
    rcases sr_cases A with ⟨e1, h1⟩ | ⟨e1, h1⟩ | ⟨e1, h1⟩ <;> rcases sr_cases B with ⟨e2, h2⟩ | ⟨e2, h2⟩ | ⟨e2, h2⟩ <;> rw [e1, e2]
    · rw [sr_pos (show 0 < A + B by grind)]; rfl
    · exact (hdn h2).elim
    · rw [sr_pos (show 0 < A - B by grind)]; simp
    · rw [h1, show 0 + B = B by grind, e2]; rfl
    · exact (hdn h2).elim
    · rw [h1, show 0 + B = B by grind, e2]; rfl
    · rw [sr_neg (show A - B < 0 by grind)]; simp
    · exact (hdn h2).elim
    · rw [sr_neg (show A + B < 0 by grind)]; rfl

set_option maxHeartbeats 4000000
abbrev c_NOTHING : D := .tuple [.int 0, .int 1]
abbrev c_WHOLE : D := .tuple [.int 1, .int 1]
def F__law_draws : List D → M D := bodyF 8 (sSeq (sOwn 2 aNil) (sSeq (sAsg (eC (.int 7)) (mgName 3)) (sSeq (sFor (itR1 (aCons (eCall fLen (aCons (eVar 0) aNil)) aNil)) (mgName 4) (sSeq (sAsg (eCall fAbs (aCons (eCall fInt (aCons (eOp fIx (eVar 0) (eVar 4)) aNil)) aNil)) (mgName 5)) (sSeq (sAsg (eOp fMod (eCall fInt (aCons (eOp fAdd (eOp fAdd (eOp fMul (eVar 3) (eC (.int 48271))) (eOp fMod (eVar 5) (eC (.int 1000003)))) (eVar 4)) aNil)) (eC (.int 65537))) (mgName 3)) (sSeq (sAsg (eC (.int 0)) (mgName 6)) (sSeq (sIf (eT (eOp fGe (eVar 5) (eOp fPow (eC (.int 10)) (eC (.int 18))))) (sAsg (eVar 5) (mgName 6)) (sSeq (sApp 2 (aCons (eOp fMod (eCall fInt (aCons (eVar 5) aNil)) (eC (.int 997))) aNil)) (sApp 2 (aCons (eOp fMod (eOp fMod (eCall fInt (aCons (eOp fAdd (eOp fMul (eVar 3) (eC (.int 69621))) (eC (.int 5))) aNil)) (eC (.int 65521))) (eC (.int 997))) aNil)))) (sFor (itR1 (aCons (eC (.int 60)) aNil)) (mgName 7) (sIf (eT (eOp fGt (eVar 6) (eC (.int 0)))) (sSeq (sApp 2 (aCons (eOp fMod (eCall fInt (aCons (eVar 6) aNil)) (eC (.int 997))) aNil)) (sAsg (eOp fDiv (eVar 6) (eC (.int 997))) (mgName 6))) sNext))))))) (sSeq (sFor (itR1 (aCons (eVar 1) aNil)) (mgName 4) (sSeq (sAsg (eOp fMod (eCall fInt (aCons (eOp fAdd (eOp fAdd (eOp fMul (eVar 3) (eC (.int 16807))) (eVar 4)) (eC (.int 1))) aNil)) (eC (.int 65537))) (mgName 3)) (sApp 2 (aCons (eOp fMod (eCall fInt (aCons (eVar 3) aNil)) (eC (.int 997))) aNil)))) (sFreeze 2 (sRet (eSl (eVar 2) oNone (oSome (eVar 1)))))))))
def F_is_number : List D → M D := bodyF 1 (sRet (eAnd (eUn (fIsi "int") (eVar 0)) (eNot (eUn (fIsi "bool") (eVar 0)))))
def F_common : List D → M D := bodyF 2 (sSeq (sWhile (eT (eOp fNe (eVar 1) (eC (.int 0)))) (sPar 0 1 (aCons (eVar 1) (aCons (eOp fMod (eVar 0) (eVar 1)) aNil)))) (sRet (eCall fAbs (aCons (eVar 0) aNil))))
def F_is_fraction : List D → M D := bodyF 1 (sSeq (sIf (mOr (mNot (eT (eUn (fIsi "tuple") (eVar 0)))) (mOr (eT (eOp fNe (eCall fLen (aCons (eVar 0) aNil)) (eC (.int 2)))) (mOr (mNot (eT (eCallN 1 F_is_number (aCons (eOp fIx (eVar 0) (eC (.int 0))) aNil)))) (mNot (eT (eCallN 1 F_is_number (aCons (eOp fIx (eVar 0) (eC (.int 1))) aNil))))))) (sRet (eC (.bool false))) sNext) (sRet (eAnd (eOp fGe (eOp fIx (eVar 0) (eC (.int 1))) (eC (.int 1))) (eOp fEq (eCallN 2 F_common (aCons (eOp fIx (eVar 0) (eC (.int 0))) (aCons (eOp fIx (eVar 0) (eC (.int 1))) aNil))) (eC (.int 1))))))
def F_is_root : List D → M D := bodyF 2 (sSeq (sIf (mOr (mNot (eT (eUn (fIsi "tuple") (eVar 0)))) (mOr (eT (eOp fNe (eCall fLen (aCons (eVar 0) aNil)) (eC (.int 3)))) (mNot (eT (eCall fAll (aCons (eLc (itT (eVar 0)) [1] (mgName 1) mYes (eCallN 1 F_is_fraction (aCons (eVar 1) aNil))) aNil)))))) (sRet (eC (.bool false))) sNext) (sRet (eAnd (eOp fGe (eOp fIx (eOp fIx (eVar 0) (eC (.int 2))) (eC (.int 0))) (eC (.int 0))) (eOp fEq (eOp fNe (eOp fIx (eVar 0) (eC (.int 1))) (eC c_NOTHING)) (eOp fNe (eOp fIx (eVar 0) (eC (.int 2))) (eC c_NOTHING))))))
def F__law_frac : List D → M D := bodyF 5 (sSeq (sPar 2 3 (aCons (eCall fAbs (aCons (eVar 0) aNil)) (aCons (eCall fAbs (aCons (eVar 1) aNil)) aNil))) (sSeq (sFor (itR1 (aCons (eC (.int 20000)) aNil)) (mgName 4) (sSeq (sIf (eT (eOp fEq (eVar 3) (eC (.int 0)))) sBreak sNext) (sPar 2 3 (aCons (eVar 3) (aCons (eOp fSub (eVar 2) (eOp fMul (eOp fDiv (eVar 2) (eVar 3)) (eVar 3))) aNil))))) (sSeq (sAsg (eIf (eT (eOp fGt (eVar 1) (eC (.int 0)))) (eVar 2) (eOp fSub (eC (.int 0)) (eVar 2))) (mgName 2)) (sRet (eTup (aCons (eOp fDiv (eVar 0) (eVar 2)) (aCons (eOp fDiv (eVar 1) (eVar 2)) aNil)))))))
def F__law_next : List D → M D := F_next
def F__law_part : List D → M D := bodyF 2 (sSeq (sAsg (eIf (eT (eOp fGt (eCallN 2 F__law_next (aCons (eVar 0) (aCons (eC (.int 4)) aNil))) (eC (.int 0)))) (eOp fSub (eCallN 2 F__law_next (aCons (eVar 0) (aCons (eC (.int 19)) aNil))) (eC (.int 9))) (eOp fAdd (eOp fMul (eOp fMul (eOp fSub (eCallN 2 F__law_next (aCons (eVar 0) (aCons (eC (.int 997)) aNil))) (eC (.int 498))) (eC (.int 997))) (eC (.int 997))) (eCallN 2 F__law_next (aCons (eVar 0) (aCons (eC (.int 997)) aNil))))) (mgName 1)) (sRet (eCallN 2 F__law_frac (aCons (eVar 1) (aCons (eOp fAdd (eC (.int 1)) (eCallN 2 F__law_next (aCons (eVar 0) (aCons (eC (.int 7)) aNil)))) aNil)))))
def F_fraction : List D → M D := bodyF 3 (sSeq (sAsg (eCallN 2 F_common (aCons (eVar 0) (aCons (eVar 1) aNil))) (mgName 2)) (sSeq (sIf (eT (eOp fLt (eVar 1) (eC (.int 0)))) (sAsg (eUn fNeg (eVar 2)) (mgName 2)) sNext) (sRet (eTup (aCons (eOp fDiv (eVar 0) (eVar 2)) (aCons (eOp fDiv (eVar 1) (eVar 2)) aNil))))))
def F_whole : List D → M D := bodyF 1 (sRet (eTup (aCons (eVar 0) (aCons (eC (.int 1)) aNil))))
def F_minus : List D → M D := bodyF 2 (sRet (eCallN 2 F_fraction (aCons (eOp fSub (eOp fMul (eOp fIx (eVar 0) (eC (.int 0))) (eOp fIx (eVar 1) (eC (.int 1)))) (eOp fMul (eOp fIx (eVar 1) (eC (.int 0))) (eOp fIx (eVar 0) (eC (.int 1))))) (aCons (eOp fMul (eOp fIx (eVar 0) (eC (.int 1))) (eOp fIx (eVar 1) (eC (.int 1)))) aNil))))
def F__law_less : List D → M D := bodyF 2 (sRet (eCallN 2 F__law_frac (aCons (eOp fSub (eOp fMul (eOp fIx (eVar 0) (eC (.int 0))) (eOp fIx (eVar 1) (eC (.int 1)))) (eOp fMul (eOp fIx (eVar 1) (eC (.int 0))) (eOp fIx (eVar 0) (eC (.int 1))))) (aCons (eOp fMul (eOp fIx (eVar 0) (eC (.int 1))) (eOp fIx (eVar 1) (eC (.int 1)))) aNil))))
def F_times : List D → M D := bodyF 2 (sRet (eCallN 2 F_fraction (aCons (eOp fMul (eOp fIx (eVar 0) (eC (.int 0))) (eOp fIx (eVar 1) (eC (.int 0)))) (aCons (eOp fMul (eOp fIx (eVar 0) (eC (.int 1))) (eOp fIx (eVar 1) (eC (.int 1)))) aNil))))
def F__law_mul : List D → M D := bodyF 2 (sRet (eCallN 2 F__law_frac (aCons (eOp fMul (eOp fIx (eVar 0) (eC (.int 0))) (eOp fIx (eVar 1) (eC (.int 0)))) (aCons (eOp fMul (eOp fIx (eVar 0) (eC (.int 1))) (eOp fIx (eVar 1) (eC (.int 1)))) aNil))))
def F_turned : List D → M D := bodyF 1 (sRet (eTup (aCons (eUn fNeg (eOp fIx (eVar 0) (eC (.int 0)))) (aCons (eOp fIx (eVar 0) (eC (.int 1))) aNil))))
def F_square : List D → M D := bodyF 1 (sRet (eTup (aCons (eOp fMul (eOp fIx (eVar 0) (eC (.int 0))) (eOp fIx (eVar 0) (eC (.int 0)))) (aCons (eOp fMul (eOp fIx (eVar 0) (eC (.int 1))) (eOp fIx (eVar 0) (eC (.int 1)))) aNil))))
def F_half : List D → M D := bodyF 1 (sRet (eCallN 2 F_fraction (aCons (eOp fIx (eVar 0) (eC (.int 0))) (aCons (eOp fMul (eC (.int 2)) (eOp fIx (eVar 0) (eC (.int 1)))) aNil))))
def F_sign_of : List D → M D := bodyF 1 (sRet (eOp fSubB (eOp fGt (eVar 0) (eC (.int 0))) (eOp fLt (eVar 0) (eC (.int 0)))))
def F_sign : List D → M D := bodyF 1 (sRet (eCallN 1 F_sign_of (aCons (eOp fIx (eVar 0) (eC (.int 0))) aNil)))
def F__law_sgn : List D → M D := bodyF 1 (sRet (eOp fSub (eIf (eT (eOp fGt (eOp fIx (eVar 0) (eC (.int 0))) (eC (.int 0)))) (eC (.int 1)) (eC (.int 0))) (eIf (eT (eOp fLt (eOp fIx (eVar 0) (eC (.int 0))) (eC (.int 0)))) (eC (.int 1)) (eC (.int 0)))))
def F_is_less : List D → M D := bodyF 2 (sRet (eOp fLt (eOp fMul (eOp fIx (eVar 0) (eC (.int 0))) (eOp fIx (eVar 1) (eC (.int 1)))) (eOp fMul (eOp fIx (eVar 1) (eC (.int 0))) (eOp fIx (eVar 0) (eC (.int 1))))))
def F_floor : List D → M D := bodyF 1 (sRet (eOp fDiv (eOp fIx (eVar 0) (eC (.int 0))) (eOp fIx (eVar 0) (eC (.int 1)))))
def F_added : List D → M D := bodyF 2 (sRet (eCallN 2 F_fraction (aCons (eOp fAdd (eOp fMul (eOp fIx (eVar 0) (eC (.int 0))) (eOp fIx (eVar 1) (eC (.int 1)))) (eOp fMul (eOp fIx (eVar 1) (eC (.int 0))) (eOp fIx (eVar 0) (eC (.int 1))))) (aCons (eOp fMul (eOp fIx (eVar 0) (eC (.int 1))) (eOp fIx (eVar 1) (eC (.int 1)))) aNil))))
def F_middle : List D → M D := bodyF 2 (sRet (eCallN 1 F_half (aCons (eCallN 2 F_added (aCons (eVar 0) (aCons (eVar 1) aNil))) aNil)))
def F__law_over : List D → M D := bodyF 2 (sRet (eCallN 2 F__law_frac (aCons (eOp fMul (eOp fIx (eVar 0) (eC (.int 0))) (eOp fIx (eVar 1) (eC (.int 1)))) (aCons (eOp fMul (eOp fIx (eVar 0) (eC (.int 1))) (eOp fIx (eVar 1) (eC (.int 0)))) aNil))))
def F_sum_of : List D → M D := bodyF 3 (sSeq (sAsg (eC c_NOTHING) (mgName 1)) (sSeq (sFor (itL (eVar 0)) (mgName 2) (sAsg (eCallN 2 F_added (aCons (eVar 1) (aCons (eVar 2) aNil))) (mgName 1))) (sRet (eVar 1))))
def F__law_add : List D → M D := bodyF 2 (sRet (eCallN 2 F__law_frac (aCons (eOp fAdd (eOp fMul (eOp fIx (eVar 0) (eC (.int 0))) (eOp fIx (eVar 1) (eC (.int 1)))) (eOp fMul (eOp fIx (eVar 1) (eC (.int 0))) (eOp fIx (eVar 0) (eC (.int 1))))) (aCons (eOp fMul (eOp fIx (eVar 0) (eC (.int 1))) (eOp fIx (eVar 1) (eC (.int 1)))) aNil))))
def F_over : List D → M D := bodyF 2 (sRet (eCallN 2 F_fraction (aCons (eOp fMul (eOp fIx (eVar 0) (eC (.int 0))) (eOp fIx (eVar 1) (eC (.int 1)))) (aCons (eOp fMul (eOp fIx (eVar 0) (eC (.int 1))) (eOp fIx (eVar 1) (eC (.int 0)))) aNil))))
def F__law_fractions : List D → M D := bodyF 3 (sSeq (sPar 1 2 (aCons (eCallN 1 F__law_part (aCons (eVar 0) aNil)) (aCons (eCallN 1 F__law_part (aCons (eVar 0) aNil)) aNil))) (sSeq (sIf (mOr (eT (eOp fNotB (eCallN 1 F_is_fraction (aCons (eVar 1) aNil)) (eC (.bool true)))) (mOr (eT (eOp fNe (eCallN 2 F_fraction (aCons (eOp fMul (eOp fIx (eVar 1) (eC (.int 0))) (eC (.int 6))) (aCons (eOp fMul (eOp fIx (eVar 1) (eC (.int 1))) (eC (.int 6))) aNil))) (eVar 1))) (mOr (eT (eOp fNe (eCallN 2 F_fraction (aCons (eOp fIx (eVar 1) (eC (.int 0))) (aCons (eOp fSub (eC (.int 0)) (eOp fIx (eVar 1) (eC (.int 1)))) aNil))) (eCallN 2 F__law_frac (aCons (eOp fSub (eC (.int 0)) (eOp fIx (eVar 1) (eC (.int 0)))) (aCons (eOp fIx (eVar 1) (eC (.int 1))) aNil))))) (eT (eOp fNe (eCallN 1 F_whole (aCons (eC (.int 7)) aNil)) (eTup (aCons (eC (.int 7)) (aCons (eC (.int 1)) aNil)))))))) (sRet (eC (.bool false))) sNext) (sSeq (sIf (mOr (eT (eOp fNe (eCallN 2 F_minus (aCons (eVar 1) (aCons (eVar 2) aNil))) (eCallN 2 F__law_less (aCons (eVar 1) (aCons (eVar 2) aNil))))) (mOr (eT (eOp fNe (eCallN 2 F_times (aCons (eVar 1) (aCons (eVar 2) aNil))) (eCallN 2 F__law_mul (aCons (eVar 1) (aCons (eVar 2) aNil))))) (mOr (eT (eOp fNe (eCallN 1 F_turned (aCons (eVar 1) aNil)) (eCallN 2 F__law_frac (aCons (eOp fSub (eC (.int 0)) (eOp fIx (eVar 1) (eC (.int 0)))) (aCons (eOp fIx (eVar 1) (eC (.int 1))) aNil))))) (eT (eOp fNe (eCallN 1 F_square (aCons (eVar 1) aNil)) (eCallN 2 F__law_mul (aCons (eVar 1) (aCons (eVar 1) aNil)))))))) (sRet (eC (.bool false))) sNext) (sSeq (sIf (mOr (eT (eOp fNe (eCallN 1 F_half (aCons (eVar 1) aNil)) (eCallN 2 F__law_frac (aCons (eOp fIx (eVar 1) (eC (.int 0))) (aCons (eOp fMul (eC (.int 2)) (eOp fIx (eVar 1) (eC (.int 1)))) aNil))))) (mOr (eT (eOp fNe (eCallN 1 F_sign (aCons (eVar 1) aNil)) (eCallN 1 F__law_sgn (aCons (eVar 1) aNil)))) (mOr (eT (eOp fNe (eCallN 2 F_is_less (aCons (eVar 1) (aCons (eVar 2) aNil))) (eOp fLt (eOp fMul (eOp fIx (eVar 1) (eC (.int 0))) (eOp fIx (eVar 2) (eC (.int 1)))) (eOp fMul (eOp fIx (eVar 2) (eC (.int 0))) (eOp fIx (eVar 1) (eC (.int 1))))))) (eT (eOp fNe (eCallN 1 F_floor (aCons (eVar 1) aNil)) (eOp fDiv (eOp fIx (eVar 1) (eC (.int 0))) (eOp fIx (eVar 1) (eC (.int 1))))))))) (sRet (eC (.bool false))) sNext) (sSeq (sIf (mOr (eT (eOp fNe (eCallN 2 F_middle (aCons (eVar 1) (aCons (eVar 2) aNil))) (eCallN 2 F__law_over (aCons (eCallN 2 F__law_add (aCons (eVar 1) (aCons (eVar 2) aNil))) (aCons (eTup (aCons (eC (.int 2)) (aCons (eC (.int 1)) aNil))) aNil))))) (mOr (eT (eOp fNe (eCallN 1 F_sum_of (aCons (eLst (aCons (eVar 1) (aCons (eVar 2) (aCons (eVar 1) aNil)))) aNil)) (eCallN 2 F__law_add (aCons (eCallN 2 F__law_add (aCons (eVar 1) (aCons (eVar 2) aNil))) (aCons (eVar 1) aNil))))) (eT (eOp fNe (eCallN 1 F_sum_of (aCons (eLst aNil) aNil)) (eTup (aCons (eC (.int 0)) (aCons (eC (.int 1)) aNil))))))) (sRet (eC (.bool false))) sNext) (sRet (eOr (eOp fEq (eOp fIx (eVar 2) (eC (.int 0))) (eC (.int 0))) (eOp fEq (eCallN 2 F_over (aCons (eVar 1) (aCons (eVar 2) aNil))) (eCallN 2 F__law_over (aCons (eVar 1) (aCons (eVar 2) aNil)))))))))))
def F__law_pick : List D → M D := bodyF 2 (sRet (eOp fIx (eVar 1) (eCallN 2 F__law_next (aCons (eVar 0) (aCons (eCall fLen (aCons (eVar 1) aNil)) aNil)))))
def F_plain : List D → M D := bodyF 1 (sRet (eTup (aCons (eVar 0) (aCons (eC c_NOTHING) (aCons (eC c_NOTHING) aNil)))))
def F_whole_root : List D → M D := bodyF 4 (sSeq (sPar 1 2 (aCons (eC (.int 0)) (aCons (eOp fAdd (eVar 0) (eC (.int 1))) aNil))) (sSeq (sWhile (eT (eOp fGt (eOp fSub (eVar 2) (eVar 1)) (eC (.int 1)))) (sSeq (sAsg (eOp fDiv (eOp fAdd (eVar 1) (eVar 2)) (eC (.int 2))) (mgName 3)) (sIf (eT (eOp fLe (eOp fMul (eVar 3) (eVar 3)) (eVar 0))) (sAsg (eVar 3) (mgName 1)) (sAsg (eVar 3) (mgName 2))))) (sRet (eIf (eT (eOp fEq (eOp fMul (eVar 1) (eVar 1)) (eVar 0))) (eVar 1) (eC .none)))))
def F_tidy : List D → M D := bodyF 5 (sSeq (sIf (mOr (eT (eOp fEq (eVar 1) (eC c_NOTHING))) (eT (eOp fEq (eVar 2) (eC c_NOTHING)))) (sRet (eCallN 1 F_plain (aCons (eVar 0) aNil))) sNext) (sSeq (sPar 3 4 (aCons (eCallN 1 F_whole_root (aCons (eOp fIx (eVar 2) (eC (.int 0))) aNil)) (aCons (eCallN 1 F_whole_root (aCons (eOp fIx (eVar 2) (eC (.int 1))) aNil)) aNil))) (sSeq (sIf (mAnd (eT (eOp fNotN (eVar 3) (eC .none))) (eT (eOp fNotN (eVar 4) (eC .none)))) (sRet (eCallN 1 F_plain (aCons (eCallN 2 F_added (aCons (eVar 0) (aCons (eCallN 2 F_times (aCons (eVar 1) (aCons (eTup (aCons (eVar 3) (aCons (eVar 4) aNil))) aNil))) aNil))) aNil))) sNext) (sRet (eTup (aCons (eVar 0) (aCons (eVar 1) (aCons (eVar 2) aNil))))))))
def F__law_number : List D → M D := bodyF 2 (sRet (eCallN 3 F_tidy (aCons (eCallN 1 F__law_part (aCons (eVar 0) aNil)) (aCons (eCallN 1 F__law_part (aCons (eVar 0) aNil)) (aCons (eVar 1) aNil)))))
def F__law_sign : List D → M D := bodyF 7 (sSeq (sAsg (eVar 0) (mgTup 3 (mgCons (mgName 1) (mgCons (mgName 2) (mgCons (mgName 3) mgNil))))) (sSeq (sPar 4 5 (aCons (eCallN 1 F__law_sgn (aCons (eVar 1) aNil)) (aCons (eIf (eT (eOp fGt (eOp fIx (eVar 3) (eC (.int 0))) (eC (.int 0)))) (eCallN 1 F__law_sgn (aCons (eVar 2) aNil)) (eC (.int 0))) aNil))) (sSeq (sIf (mOr (eT (eOp fEq (eVar 4) (eVar 5))) (eT (eOp fEq (eVar 5) (eC (.int 0))))) (sRet (eVar 4)) sNext) (sSeq (sAsg (eCallN 1 F__law_sgn (aCons (eCallN 2 F__law_less (aCons (eCallN 2 F__law_mul (aCons (eVar 1) (aCons (eVar 1) aNil))) (aCons (eCallN 2 F__law_mul (aCons (eCallN 2 F__law_mul (aCons (eVar 2) (aCons (eVar 2) aNil))) (aCons (eVar 3) aNil))) aNil))) aNil)) (mgName 6)) (sRet (eIf (eT (eOp fEq (eVar 4) (eC (.int 0)))) (eVar 5) (eOp fMul (eVar 4) (eVar 6))))))))
def F_times_root : List D → M D := bodyF 4 (sSeq (sAsg (eIf (eT (eOp fNe (eOp fIx (eVar 0) (eC (.int 1))) (eC c_NOTHING))) (eOp fIx (eVar 0) (eC (.int 2))) (eOp fIx (eVar 1) (eC (.int 2)))) (mgName 2)) (sSeq (sAsg (eCallN 2 F_added (aCons (eCallN 2 F_times (aCons (eOp fIx (eVar 0) (eC (.int 0))) (aCons (eOp fIx (eVar 1) (eC (.int 0))) aNil))) (aCons (eCallN 2 F_times (aCons (eCallN 2 F_times (aCons (eOp fIx (eVar 0) (eC (.int 1))) (aCons (eOp fIx (eVar 1) (eC (.int 1))) aNil))) (aCons (eVar 2) aNil))) aNil))) (mgName 3)) (sRet (eCallN 3 F_tidy (aCons (eVar 3) (aCons (eCallN 2 F_added (aCons (eCallN 2 F_times (aCons (eOp fIx (eVar 0) (eC (.int 0))) (aCons (eOp fIx (eVar 1) (eC (.int 1))) aNil))) (aCons (eCallN 2 F_times (aCons (eOp fIx (eVar 0) (eC (.int 1))) (aCons (eOp fIx (eVar 1) (eC (.int 0))) aNil))) aNil))) (aCons (eVar 2) aNil)))))))
def F__law_compare : List D → M D := bodyF 12 (sSeq (sAsg (eTup (aCons (eVar 0) (aCons (eVar 1) aNil))) (mgTup 2 (mgCons (mgTup 3 (mgCons (mgName 2) (mgCons (mgName 3) (mgCons (mgName 4) mgNil)))) (mgCons (mgTup 3 (mgCons (mgName 5) (mgCons (mgName 6) (mgCons (mgName 7) mgNil)))) mgNil)))) (sSeq (sPar 8 9 (aCons (eCallN 1 F__law_sign (aCons (eTup (aCons (eCallN 2 F__law_less (aCons (eVar 2) (aCons (eVar 5) aNil))) (aCons (eVar 3) (aCons (eVar 4) aNil)))) aNil)) (aCons (eIf (eT (eOp fGt (eOp fIx (eVar 7) (eC (.int 0))) (eC (.int 0)))) (eOp fSub (eC (.int 0)) (eCallN 1 F__law_sgn (aCons (eVar 6) aNil))) (eC (.int 0))) aNil))) (sSeq (sIf (mOr (eT (eOp fEq (eVar 9) (eC (.int 0)))) (eT (eOp fEq (eVar 8) (eVar 9)))) (sRet (eVar 8)) sNext) (sSeq (sIf (eT (eOp fEq (eVar 8) (eC (.int 0)))) (sRet (eVar 9)) sNext) (sSeq (sAsg (eCallN 2 F__law_less (aCons (eVar 2) (aCons (eVar 5) aNil))) (mgName 10)) (sSeq (sAsg (eCallN 2 F__law_less (aCons (eCallN 2 F__law_add (aCons (eCallN 2 F__law_mul (aCons (eVar 10) (aCons (eVar 10) aNil))) (aCons (eCallN 2 F__law_mul (aCons (eCallN 2 F__law_mul (aCons (eVar 3) (aCons (eVar 3) aNil))) (aCons (eVar 4) aNil))) aNil))) (aCons (eCallN 2 F__law_mul (aCons (eCallN 2 F__law_mul (aCons (eVar 6) (aCons (eVar 6) aNil))) (aCons (eVar 7) aNil))) aNil))) (mgName 11)) (sRet (eOp fMul (eVar 8) (eCallN 1 F__law_sign (aCons (eTup (aCons (eVar 11) (aCons (eCallN 2 F__law_mul (aCons (eTup (aCons (eC (.int 2)) (aCons (eC (.int 1)) aNil))) (aCons (eCallN 2 F__law_mul (aCons (eVar 10) (aCons (eVar 3) aNil))) aNil))) (aCons (eVar 4) aNil)))) aNil))))))))))
def F__law_is : List D → M D := bodyF 4 (sRet (eAnd (eOp fIsB (eCallN 1 F_is_root (aCons (eVar 0) aNil)) (eC (.bool true))) (eOp fEq (eCallN 2 F__law_compare (aCons (eVar 0) (aCons (eTup (aCons (eVar 1) (aCons (eVar 2) (aCons (eVar 3) aNil)))) aNil))) (eC (.int 0)))))
def F_over_root : List D → M D := bodyF 7 (sSeq (sAsg (eVar 1) (mgTup 3 (mgCons (mgName 2) (mgCons (mgName 3) (mgCons (mgName 4) mgNil))))) (sSeq (sAsg (eCallN 2 F_minus (aCons (eCallN 1 F_square (aCons (eVar 2) aNil)) (aCons (eCallN 2 F_times (aCons (eCallN 1 F_square (aCons (eVar 3) aNil)) (aCons (eVar 4) aNil))) aNil))) (mgName 5)) (sSeq (sAsg (eCallN 3 F_tidy (aCons (eCallN 2 F_over (aCons (eVar 2) (aCons (eVar 5) aNil))) (aCons (eCallN 1 F_turned (aCons (eCallN 2 F_over (aCons (eVar 3) (aCons (eVar 5) aNil))) aNil)) (aCons (eVar 4) aNil)))) (mgName 6)) (sRet (eCallN 2 F_times_root (aCons (eVar 0) (aCons (eVar 6) aNil)))))))
def F_sign_of_root : List D → M D := bodyF 7 (sSeq (sAsg (eVar 0) (mgTup 3 (mgCons (mgName 1) (mgCons (mgName 2) (mgCons (mgName 3) mgNil))))) (sSeq (sPar 4 5 (aCons (eCallN 1 F_sign (aCons (eVar 1) aNil)) (aCons (eIf (eT (eOp fNe (eVar 3) (eC c_NOTHING))) (eCallN 1 F_sign (aCons (eVar 2) aNil)) (eC (.int 0))) aNil))) (sSeq (sIf (mOr (eT (eOp fEq (eVar 4) (eVar 5))) (eT (eOp fEq (eVar 5) (eC (.int 0))))) (sRet (eVar 4)) sNext) (sSeq (sIf (eT (eOp fEq (eVar 4) (eC (.int 0)))) (sRet (eVar 5)) sNext) (sSeq (sAsg (eCallN 1 F_sign (aCons (eCallN 2 F_minus (aCons (eCallN 1 F_square (aCons (eVar 1) aNil)) (aCons (eCallN 2 F_times (aCons (eCallN 1 F_square (aCons (eVar 2) aNil)) (aCons (eVar 3) aNil))) aNil))) aNil)) (mgName 6)) (sRet (eIf (eT (eOp fNe (eVar 6) (eC (.int 0)))) (eOp fMul (eVar 4) (eVar 6)) (eC (.int 0)))))))))
def F_root_of : List D → M D := bodyF 1 (sRet (eCallN 3 F_tidy (aCons (eC c_NOTHING) (aCons (eC c_WHOLE) (aCons (eVar 0) aNil)))))
def F_added_root : List D → M D := bodyF 3 (sSeq (sAsg (eIf (eT (eOp fNe (eOp fIx (eVar 0) (eC (.int 1))) (eC c_NOTHING))) (eOp fIx (eVar 0) (eC (.int 2))) (eOp fIx (eVar 1) (eC (.int 2)))) (mgName 2)) (sRet (eCallN 3 F_tidy (aCons (eCallN 2 F_added (aCons (eOp fIx (eVar 0) (eC (.int 0))) (aCons (eOp fIx (eVar 1) (eC (.int 0))) aNil))) (aCons (eCallN 2 F_added (aCons (eOp fIx (eVar 0) (eC (.int 1))) (aCons (eOp fIx (eVar 1) (eC (.int 1))) aNil))) (aCons (eVar 2) aNil))))))
def F_turned_root : List D → M D := bodyF 1 (sRet (eTup (aCons (eCallN 1 F_turned (aCons (eOp fIx (eVar 0) (eC (.int 0))) aNil)) (aCons (eCallN 1 F_turned (aCons (eOp fIx (eVar 0) (eC (.int 1))) aNil)) (aCons (eOp fIx (eVar 0) (eC (.int 2))) aNil)))))
def F_minus_root : List D → M D := bodyF 2 (sRet (eCallN 2 F_added_root (aCons (eVar 0) (aCons (eCallN 1 F_turned_root (aCons (eVar 1) aNil)) aNil))))
def F_by_fraction : List D → M D := bodyF 2 (sRet (eCallN 3 F_tidy (aCons (eCallN 2 F_times (aCons (eOp fIx (eVar 0) (eC (.int 0))) (aCons (eVar 1) aNil))) (aCons (eCallN 2 F_times (aCons (eOp fIx (eVar 0) (eC (.int 1))) (aCons (eVar 1) aNil))) (aCons (eOp fIx (eVar 0) (eC (.int 2))) aNil)))))
def F__law_sums : List D → M D := bodyF 13 (sSeq (sAsg (eCallN 2 F__law_pick (aCons (eVar 0) (aCons (eLst (aCons (eTup (aCons (eC (.int 2)) (aCons (eC (.int 1)) aNil))) (aCons (eTup (aCons (eC (.int 3)) (aCons (eC (.int 1)) aNil))) (aCons (eTup (aCons (eC (.int 5)) (aCons (eC (.int 4)) aNil))) (aCons (eTup (aCons (eC (.int 4)) (aCons (eC (.int 1)) aNil))) (aCons (eTup (aCons (eC (.int 0)) (aCons (eC (.int 1)) aNil))) (aCons (eTup (aCons (eC (.int 8)) (aCons (eC (.int 9)) aNil))) (aCons (eTup (aCons (eC (.int 7)) (aCons (eC (.int 2)) aNil))) aNil)))))))) aNil))) (mgName 1)) (sSeq (sPar3 2 3 4 (aCons (eCallN 2 F__law_number (aCons (eVar 0) (aCons (eVar 1) aNil))) (aCons (eCallN 2 F__law_number (aCons (eVar 0) (aCons (eVar 1) aNil))) (aCons (eCallN 1 F__law_part (aCons (eVar 0) aNil)) aNil)))) (sSeq (sAsg (eTup (aCons (eVar 2) (aCons (eVar 3) aNil))) (mgTup 2 (mgCons (mgTup 3 (mgCons (mgName 5) (mgCons (mgName 6) (mgCons (mgName 7) mgNil)))) (mgCons (mgTup 3 (mgCons (mgName 8) (mgCons (mgName 9) (mgCons (mgName 10) mgNil)))) mgNil)))) (sSeq (sAsg (eIf (eT (eOp fGt (eOp fIx (eVar 7) (eC (.int 0))) (eC (.int 0)))) (eVar 7) (eVar 10)) (mgName 7)) (sSeq (sIf (mOr (mNot (eT (eCallN 4 F__law_is (aCons (eCallN 2 F_added_root (aCons (eVar 2) (aCons (eVar 3) aNil))) (aCons (eCallN 2 F__law_add (aCons (eVar 5) (aCons (eVar 8) aNil))) (aCons (eCallN 2 F__law_add (aCons (eVar 6) (aCons (eVar 9) aNil))) (aCons (eVar 7) aNil))))))) (mNot (eT (eCallN 4 F__law_is (aCons (eCallN 2 F_minus_root (aCons (eVar 2) (aCons (eVar 3) aNil))) (aCons (eCallN 2 F__law_less (aCons (eVar 5) (aCons (eVar 8) aNil))) (aCons (eCallN 2 F__law_less (aCons (eVar 6) (aCons (eVar 9) aNil))) (aCons (eVar 7) aNil)))))))) (sRet (eC (.bool false))) sNext) (sSeq (sAsg (eTup (aCons (eCallN 2 F__law_add (aCons (eCallN 2 F__law_mul (aCons (eVar 5) (aCons (eVar 8) aNil))) (aCons (eCallN 2 F__law_mul (aCons (eCallN 2 F__law_mul (aCons (eVar 6) (aCons (eVar 9) aNil))) (aCons (eVar 7) aNil))) aNil))) (aCons (eCallN 2 F__law_add (aCons (eCallN 2 F__law_mul (aCons (eVar 5) (aCons (eVar 9) aNil))) (aCons (eCallN 2 F__law_mul (aCons (eVar 6) (aCons (eVar 8) aNil))) aNil))) (aCons (eVar 7) aNil)))) (mgName 11)) (sSeq (sIf (mOr (mNot (eT (eCallN 4 F__law_is (aCons (eCallN 2 F_times_root (aCons (eVar 2) (aCons (eVar 3) aNil))) (aCons (eOp fIx (eVar 11) (eC (.int 0))) (aCons (eOp fIx (eVar 11) (eC (.int 1))) (aCons (eVar 7) aNil))))))) (mNot (eT (eCallN 4 F__law_is (aCons (eCallN 2 F_by_fraction (aCons (eVar 2) (aCons (eVar 4) aNil))) (aCons (eCallN 2 F__law_mul (aCons (eVar 5) (aCons (eVar 4) aNil))) (aCons (eCallN 2 F__law_mul (aCons (eVar 6) (aCons (eVar 4) aNil))) (aCons (eVar 7) aNil)))))))) (sRet (eC (.bool false))) sNext) (sSeq (sIf (eT (eOp fNe (eCallN 1 F__law_sign (aCons (eVar 3) aNil)) (eC (.int 0)))) (sSeq (sAsg (eCallN 2 F_times_root (aCons (eCallN 2 F_over_root (aCons (eVar 2) (aCons (eVar 3) aNil))) (aCons (eVar 3) aNil))) (mgName 12)) (sIf (eT (eOp fNe (eCallN 2 F__law_compare (aCons (eVar 12) (aCons (eVar 2) aNil))) (eC (.int 0)))) (sRet (eC (.bool false))) sNext)) sNext) (sRet (eAnd (eOp fEq (eCallN 1 F_sign_of_root (aCons (eVar 2) aNil)) (eCallN 1 F__law_sign (aCons (eVar 2) aNil))) (eAnd (eCallN 4 F__law_is (aCons (eCallN 1 F_root_of (aCons (eVar 1) aNil)) (aCons (eTup (aCons (eC (.int 0)) (aCons (eC (.int 1)) aNil))) (aCons (eTup (aCons (eC (.int 1)) (aCons (eC (.int 1)) aNil))) (aCons (eVar 1) aNil))))) (eCallN 4 F__law_is (aCons (eCallN 1 F_plain (aCons (eVar 4) aNil)) (aCons (eVar 4) (aCons (eTup (aCons (eC (.int 0)) (aCons (eC (.int 1)) aNil))) (aCons (eTup (aCons (eC (.int 0)) (aCons (eC (.int 1)) aNil))) aNil))))))))))))))))
def F_bound_of : List D → M D := bodyF 5 (sSeq (sAsg (eVar 0) (mgTup 3 (mgCons (mgName 1) (mgCons (mgName 2) (mgCons (mgName 3) mgNil))))) (sSeq (sAsg (eCallN 2 F_times (aCons (eCallN 1 F_square (aCons (eVar 2) aNil)) (aCons (eVar 3) aNil))) (mgName 4)) (sRet (eOp fAdd (eOp fAdd (eOp fDiv (eCall fAbs (aCons (eOp fIx (eVar 1) (eC (.int 0))) aNil)) (eOp fIx (eVar 1) (eC (.int 1)))) (eOp fDiv (eOp fIx (eVar 4) (eC (.int 0))) (eOp fIx (eVar 4) (eC (.int 1))))) (eC (.int 3))))))
def F_sign_of_two : List D → M D := bodyF 8 (sSeq (sIf (mOr (eT (eOp fEq (eVar 3) (eC c_NOTHING))) (eT (eOp fEq (eVar 4) (eC c_NOTHING)))) (sRet (eCallN 1 F_sign_of_root (aCons (eTup (aCons (eVar 0) (aCons (eVar 1) (aCons (eVar 2) aNil)))) aNil))) sNext) (sSeq (sAsg (eCallN 1 F_sign_of_root (aCons (eTup (aCons (eVar 0) (aCons (eVar 1) (aCons (eVar 2) aNil)))) aNil)) (mgName 5)) (sSeq (sAsg (eCallN 1 F_sign (aCons (eVar 3) aNil)) (mgName 6)) (sSeq (sIf (mOr (eT (eOp fEq (eVar 5) (eC (.int 0)))) (eT (eOp fEq (eVar 5) (eVar 6)))) (sRet (eVar 6)) sNext) (sSeq (sAsg (eTup (aCons (eCallN 2 F_minus (aCons (eCallN 1 F_sum_of (aCons (eLst (aCons (eCallN 1 F_square (aCons (eVar 0) aNil)) (aCons (eCallN 2 F_times (aCons (eCallN 1 F_square (aCons (eVar 1) aNil)) (aCons (eVar 2) aNil))) aNil))) aNil)) (aCons (eCallN 2 F_times (aCons (eCallN 1 F_square (aCons (eVar 3) aNil)) (aCons (eVar 4) aNil))) aNil))) (aCons (eCallN 2 F_times (aCons (eTup (aCons (eC (.int 2)) (aCons (eC (.int 1)) aNil))) (aCons (eCallN 2 F_times (aCons (eVar 0) (aCons (eVar 1) aNil))) aNil))) (aCons (eVar 2) aNil)))) (mgName 7)) (sRet (eOp fMul (eVar 5) (eCallN 1 F_sign_of_root (aCons (eVar 7) aNil)))))))))
def F_compare : List D → M D := bodyF 8 (sSeq (sAsg (eVar 0) (mgTup 3 (mgCons (mgName 2) (mgCons (mgName 3) (mgCons (mgName 4) mgNil))))) (sSeq (sAsg (eVar 1) (mgTup 3 (mgCons (mgName 5) (mgCons (mgName 6) (mgCons (mgName 7) mgNil))))) (sRet (eCallN 5 F_sign_of_two (aCons (eCallN 2 F_minus (aCons (eVar 2) (aCons (eVar 5) aNil))) (aCons (eVar 3) (aCons (eVar 4) (aCons (eCallN 1 F_turned (aCons (eVar 6) aNil)) (aCons (eVar 7) aNil)))))))))
def F_floor_of : List D → M D := bodyF 4 (sSeq (sPar 1 2 (aCons (eUn fNeg (eCallN 1 F_bound_of (aCons (eVar 0) aNil))) (aCons (eCallN 1 F_bound_of (aCons (eVar 0) aNil)) aNil))) (sSeq (sWhile (eT (eOp fGt (eOp fSub (eVar 2) (eVar 1)) (eC (.int 1)))) (sSeq (sAsg (eOp fDiv (eOp fAdd (eVar 1) (eVar 2)) (eC (.int 2))) (mgName 3)) (sIf (eT (eOp fLe (eCallN 2 F_compare (aCons (eCallN 1 F_plain (aCons (eCallN 1 F_whole (aCons (eVar 3) aNil)) aNil)) (aCons (eVar 0) aNil))) (eC (.int 0)))) (sAsg (eVar 3) (mgName 1)) (sAsg (eVar 3) (mgName 2))))) (sRet (eVar 1))))
def F_rounded : List D → M D := bodyF 4 (sSeq (sAsg (eC (.int 1)) (mgName 2)) (sSeq (sFor (itR1 (aCons (eVar 1) aNil)) (mgName 3) (sAug 2 fMul (eC (.int 10)))) (sRet (eCallN 1 F_floor_of (aCons (eCallN 2 F_minus_root (aCons (eCallN 2 F_by_fraction (aCons (eVar 0) (aCons (eCallN 1 F_whole (aCons (eVar 2) aNil)) aNil))) (aCons (eCallN 1 F_plain (aCons (eCallN 2 F_fraction (aCons (eUn fNeg (eC (.int 1))) (aCons (eC (.int 2)) aNil))) aNil)) aNil))) aNil)))))
def F_near_by : List D → M D := bodyF 2 (sRet (eCallN 2 F_fraction (aCons (eCallN 1 F_floor_of (aCons (eCallN 2 F_by_fraction (aCons (eVar 0) (aCons (eCallN 1 F_whole (aCons (eVar 1) aNil)) aNil))) aNil)) (aCons (eVar 1) aNil))))
def F_digits_of : List D → M D := bodyF 5 (sSeq (sAsg (eCallN 2 F_rounded (aCons (eVar 0) (aCons (eVar 1) aNil))) (mgName 2)) (sSeq (sAsg (eCall fStr (aCons (eCall fAbs (aCons (eVar 2) aNil)) aNil)) (mgName 3)) (sSeq (sAsg (eOp fCatS (eOp fMulS (eC (.str "0")) (eOp fSub (eOp fAdd (eVar 1) (eC (.int 1))) (eCall fLen (aCons (eVar 3) aNil)))) (eVar 3)) (mgName 3)) (sSeq (sAsg (eIf (eT (eOp fLt (eVar 2) (eC (.int 0)))) (eC (.str "-")) (eC (.str ""))) (mgName 4)) (sRet (eOp fCatS (eOp fCatS (eVar 4) (eSl (eVar 3) oNone (oSome (eOp fSub (eCall fLen (aCons (eVar 3) aNil)) (eVar 1))))) (eIf (eT (eOp fGt (eVar 1) (eC (.int 0)))) (eOp fCatS (eC (.str ".")) (eSl (eVar 3) (oSome (eOp fSub (eCall fLen (aCons (eVar 3) aNil)) (eVar 1))) oNone)) (eC (.str "")))))))))
def F_between : List D → M D := bodyF 5 (sSeq (sAsg (eC (.int 1)) (mgName 2)) (sWhile (eT (eC (.bool true))) (sSeq (sAsg (eOp fAdd (eCallN 1 F_floor_of (aCons (eCallN 2 F_by_fraction (aCons (eVar 0) (aCons (eCallN 1 F_whole (aCons (eVar 2) aNil)) aNil))) aNil)) (eC (.int 1))) (mgName 3)) (sSeq (sAsg (eCallN 2 F_fraction (aCons (eVar 3) (aCons (eVar 2) aNil))) (mgName 4)) (sSeq (sIf (eT (eOp fLt (eCallN 2 F_compare (aCons (eCallN 1 F_plain (aCons (eVar 4) aNil)) (aCons (eVar 1) aNil))) (eC (.int 0)))) (sRet (eVar 4)) sNext) (sAug 2 fMul (eC (.int 2))))))))
def F__law_parts : List D → M D := bodyF 17 (sSeq (sPar 1 2 (aCons (eCallN 2 F__law_number (aCons (eVar 0) (aCons (eCallN 2 F__law_pick (aCons (eVar 0) (aCons (eLst (aCons (eTup (aCons (eC (.int 2)) (aCons (eC (.int 1)) aNil))) (aCons (eTup (aCons (eC (.int 3)) (aCons (eC (.int 1)) aNil))) (aCons (eTup (aCons (eC (.int 10)) (aCons (eC (.int 1)) aNil))) aNil)))) aNil))) aNil))) (aCons (eCallN 2 F__law_number (aCons (eVar 0) (aCons (eCallN 2 F__law_pick (aCons (eVar 0) (aCons (eLst (aCons (eTup (aCons (eC (.int 2)) (aCons (eC (.int 1)) aNil))) (aCons (eTup (aCons (eC (.int 5)) (aCons (eC (.int 9)) aNil))) (aCons (eTup (aCons (eC (.int 11)) (aCons (eC (.int 1)) aNil))) aNil)))) aNil))) aNil))) aNil))) (sSeq (sAsg (eCallN 1 F_floor_of (aCons (eVar 1) aNil)) (mgName 3)) (sSeq (sIf (mOr (mNot (eT (eUn (fIsi "int") (eVar 3)))) (mOr (eT (eOp fGt (eCallN 2 F__law_compare (aCons (eTup (aCons (eTup (aCons (eVar 3) (aCons (eC (.int 1)) aNil))) (aCons (eTup (aCons (eC (.int 0)) (aCons (eC (.int 1)) aNil))) (aCons (eTup (aCons (eC (.int 0)) (aCons (eC (.int 1)) aNil))) aNil)))) (aCons (eVar 1) aNil))) (eC (.int 0)))) (eT (eOp fLe (eCallN 2 F__law_compare (aCons (eTup (aCons (eTup (aCons (eOp fAdd (eVar 3) (eC (.int 1))) (aCons (eC (.int 1)) aNil))) (aCons (eTup (aCons (eC (.int 0)) (aCons (eC (.int 1)) aNil))) (aCons (eTup (aCons (eC (.int 0)) (aCons (eC (.int 1)) aNil))) aNil)))) (aCons (eVar 1) aNil))) (eC (.int 0)))))) (sRet (eC (.bool false))) sNext) (sSeq (sPar 4 5 (aCons (eOp fAdd (eC (.int 1)) (eCallN 2 F__law_next (aCons (eVar 0) (aCons (eC (.int 9)) aNil)))) (aCons (eCallN 2 F__law_next (aCons (eVar 0) (aCons (eC (.int 4)) aNil))) aNil))) (sSeq (sPar 6 7 (aCons (eCallN 2 F_near_by (aCons (eVar 1) (aCons (eVar 4) aNil))) (aCons (eC (.int 1)) aNil))) (sSeq (sFor (itR1 (aCons (eVar 5) aNil)) (mgName 8) (sAsg (eOp fMul (eVar 7) (eC (.int 10))) (mgName 7))) (sSeq (sIf (mOr (eT (eOp fNe (eVar 6) (eCallN 2 F__law_frac (aCons (eCallN 1 F_floor_of (aCons (eCallN 2 F_by_fraction (aCons (eVar 1) (aCons (eTup (aCons (eVar 4) (aCons (eC (.int 1)) aNil))) aNil))) aNil)) (aCons (eVar 4) aNil))))) (mOr (eT (eOp fGt (eCallN 2 F__law_compare (aCons (eTup (aCons (eVar 6) (aCons (eTup (aCons (eC (.int 0)) (aCons (eC (.int 1)) aNil))) (aCons (eTup (aCons (eC (.int 0)) (aCons (eC (.int 1)) aNil))) aNil)))) (aCons (eVar 1) aNil))) (eC (.int 0)))) (eT (eOp fLe (eCallN 2 F__law_compare (aCons (eTup (aCons (eCallN 2 F__law_add (aCons (eVar 6) (aCons (eTup (aCons (eC (.int 1)) (aCons (eVar 4) aNil))) aNil))) (aCons (eTup (aCons (eC (.int 0)) (aCons (eC (.int 1)) aNil))) (aCons (eTup (aCons (eC (.int 0)) (aCons (eC (.int 1)) aNil))) aNil)))) (aCons (eVar 1) aNil))) (eC (.int 0)))))) (sRet (eC (.bool false))) sNext) (sSeq (sAsg (eCallN 2 F_rounded (aCons (eVar 1) (aCons (eVar 5) aNil))) (mgName 9)) (sSeq (sPar 10 11 (aCons (eCallN 2 F__law_frac (aCons (eOp fSub (eOp fMul (eC (.int 2)) (eVar 9)) (eC (.int 1))) (aCons (eOp fMul (eC (.int 2)) (eVar 7)) aNil))) (aCons (eCallN 2 F__law_frac (aCons (eOp fAdd (eOp fMul (eC (.int 2)) (eVar 9)) (eC (.int 1))) (aCons (eOp fMul (eC (.int 2)) (eVar 7)) aNil))) aNil))) (sSeq (sIf (mOr (eT (eOp fGt (eCallN 2 F__law_compare (aCons (eTup (aCons (eVar 10) (aCons (eTup (aCons (eC (.int 0)) (aCons (eC (.int 1)) aNil))) (aCons (eTup (aCons (eC (.int 0)) (aCons (eC (.int 1)) aNil))) aNil)))) (aCons (eVar 1) aNil))) (eC (.int 0)))) (eT (eOp fLe (eCallN 2 F__law_compare (aCons (eTup (aCons (eVar 11) (aCons (eTup (aCons (eC (.int 0)) (aCons (eC (.int 1)) aNil))) (aCons (eTup (aCons (eC (.int 0)) (aCons (eC (.int 1)) aNil))) aNil)))) (aCons (eVar 1) aNil))) (eC (.int 0))))) (sRet (eC (.bool false))) sNext) (sSeq (sAsg (eCall fStr (aCons (eCall fAbs (aCons (eVar 9) aNil)) aNil)) (mgName 12)) (sSeq (sAsg (eOp fCatS (eOp fMulS (eC (.str "0")) (eOp fSub (eOp fAdd (eVar 5) (eC (.int 1))) (eCall fLen (aCons (eVar 12) aNil)))) (eVar 12)) (mgName 12)) (sSeq (sAsg (eOp fCatS (eSl (eVar 12) oNone (oSome (eOp fSub (eCall fLen (aCons (eVar 12) aNil)) (eVar 5)))) (eIf (eT (eOp fGt (eVar 5) (eC (.int 0)))) (eOp fCatS (eC (.str ".")) (eSl (eVar 12) (oSome (eOp fSub (eCall fLen (aCons (eVar 12) aNil)) (eVar 5))) oNone)) (eC (.str "")))) (mgName 12)) (sSeq (sIf (eT (eOp fNe (eCallN 2 F_digits_of (aCons (eVar 1) (aCons (eVar 5) aNil))) (eOp fCatS (eIf (eT (eOp fLt (eVar 9) (eC (.int 0)))) (eC (.str "-")) (eC (.str ""))) (eVar 12)))) (sRet (eC (.bool false))) sNext) (sSeq (sAsg (eCallN 2 F__law_compare (aCons (eVar 1) (aCons (eVar 2) aNil))) (mgName 13)) (sSeq (sIf (eT (eOp fEq (eVar 13) (eC (.int 0)))) (sRet (eC (.bool true))) sNext) (sSeq (sAsg (eIf (eT (eOp fLt (eVar 13) (eC (.int 0)))) (eTup (aCons (eVar 1) (aCons (eVar 2) aNil))) (eTup (aCons (eVar 2) (aCons (eVar 1) aNil)))) (mgTup 2 (mgCons (mgName 10) (mgCons (mgName 11) mgNil)))) (sSeq (sPar 14 4 (aCons (eCallN 2 F_between (aCons (eVar 10) (aCons (eVar 11) aNil))) (aCons (eC (.int 1)) aNil))) (sSeq (sFor (itR1 (aCons (eC (.int 200)) aNil)) (mgName 15) (sSeq (sAsg (eCallN 2 F__law_frac (aCons (eOp fAdd (eCallN 1 F_floor_of (aCons (eCallN 2 F_by_fraction (aCons (eVar 10) (aCons (eTup (aCons (eVar 4) (aCons (eC (.int 1)) aNil))) aNil))) aNil)) (eC (.int 1))) (aCons (eVar 4) aNil))) (mgName 16)) (sSeq (sIf (eT (eOp fLt (eCallN 2 F__law_compare (aCons (eTup (aCons (eVar 16) (aCons (eTup (aCons (eC (.int 0)) (aCons (eC (.int 1)) aNil))) (aCons (eTup (aCons (eC (.int 0)) (aCons (eC (.int 1)) aNil))) aNil)))) (aCons (eVar 11) aNil))) (eC (.int 0)))) (sRet (eOp fEq (eVar 14) (eVar 16))) sNext) (sAsg (eOp fMul (eVar 4) (eC (.int 2))) (mgName 4))))) (sRet (eC (.bool false))))))))))))))))))))))
def F_sorted_roots : List D → M D := bodyF 5 (sSeq (sOwn 1 aNil) (sSeq (sFor (itL (eVar 0)) (mgName 2) (sSeq (sAsg (eCall fLen (aCons (eLc (itO 1) [4] (mgName 4) (eT (eOp fLe (eCallN 2 F_compare (aCons (eVar 4) (aCons (eVar 2) aNil))) (eC (.int 0)))) (eVar 4)) aNil)) (mgName 3)) (sIns 1 (aCons (eVar 3) (aCons (eVar 2) aNil))))) (sFreeze 1 (sRet (eCall fTuple (aCons (eVar 1) aNil))))))
def F_rank_of : List D → M D := bodyF 4 (sSeq (sAsg (eLc (itL (eVar 0)) [3] (mgName 3) mYes (eCallN 2 F_compare (aCons (eVar 3) (aCons (eVar 1) aNil)))) (mgName 2)) (sRet (eTup (aCons (eCount (eVar 2) (aCons (eUn fNeg (eC (.int 1))) aNil)) (aCons (eCount (eVar 2) (aCons (eC (.int 0)) aNil)) aNil)))))
def F_least_of : List D → M D := bodyF 3 (sSeq (sAsg (eOp fIx (eVar 0) (eC (.int 0))) (mgName 1)) (sSeq (sFor (itL (eSl (eVar 0) (oSome (eC (.int 1))) oNone)) (mgName 2) (sAsg (eIf (eT (eOp fLt (eCallN 2 F_compare (aCons (eVar 2) (aCons (eVar 1) aNil))) (eC (.int 0)))) (eVar 2) (eVar 1)) (mgName 1))) (sRet (eVar 1))))
def F_greatest_of : List D → M D := bodyF 3 (sSeq (sAsg (eOp fIx (eVar 0) (eC (.int 0))) (mgName 1)) (sSeq (sFor (itL (eSl (eVar 0) (oSome (eC (.int 1))) oNone)) (mgName 2) (sAsg (eIf (eT (eOp fGt (eCallN 2 F_compare (aCons (eVar 2) (aCons (eVar 1) aNil))) (eC (.int 0)))) (eVar 2) (eVar 1)) (mgName 1))) (sRet (eVar 1))))
def F__law_rows : List D → M D := bodyF 11 (sSeq (sAsg (eLc (itR1 (aCons (eOp fAdd (eC (.int 1)) (eCallN 2 F__law_next (aCons (eVar 0) (aCons (eC (.int 6)) aNil)))) aNil)) [8] (mgName 8) mYes (eCallN 2 F__law_number (aCons (eVar 0) (aCons (eCallN 2 F__law_pick (aCons (eVar 0) (aCons (eLst (aCons (eTup (aCons (eC (.int 2)) (aCons (eC (.int 1)) aNil))) (aCons (eTup (aCons (eC (.int 3)) (aCons (eC (.int 1)) aNil))) (aCons (eTup (aCons (eC (.int 5)) (aCons (eC (.int 4)) aNil))) (aCons (eTup (aCons (eC (.int 0)) (aCons (eC (.int 1)) aNil))) aNil))))) aNil))) aNil)))) (mgName 1)) (sSeq (sAsg (eIf (eT (eOp fEq (eCallN 2 F__law_next (aCons (eVar 0) (aCons (eC (.int 2)) aNil))) (eC (.int 0)))) (eOp fCatL (eVar 1) (eLst (aCons (eOp fIx (eVar 1) (eC (.int 0))) aNil))) (eVar 1)) (mgName 1)) (sSeq (sAsg (eCallN 1 F_sorted_roots (aCons (eCall fList (aCons (eVar 1) aNil)) aNil)) (mgName 2)) (sSeq (sIf (mOr (mNot (eT (eUn (fIsi "tuple") (eVar 2)))) (mOr (eT (eOp fNe (eCall fSorted (aCons (eVar 2) aNil)) (eCall fSorted (aCons (eVar 1) aNil)))) (eT (eOp fNe (eLc (itR1 (aCons (eOp fSub (eCall fLen (aCons (eVar 2) aNil)) (eC (.int 1))) aNil)) [8] (mgName 8) (eT (eOp fGt (eCallN 2 F__law_compare (aCons (eOp fIx (eVar 2) (eVar 8)) (aCons (eOp fIx (eVar 2) (eOp fAdd (eVar 8) (eC (.int 1)))) aNil))) (eC (.int 0)))) (eVar 8)) (eLst aNil))))) (sRet (eC (.bool false))) sNext) (sSeq (sAsg (eCallN 2 F__law_pick (aCons (eVar 0) (aCons (eVar 1) aNil))) (mgName 3)) (sSeq (sAsg (eLc (itL (eVar 1)) [9] (mgName 9) mYes (eCallN 2 F__law_compare (aCons (eVar 9) (aCons (eVar 3) aNil)))) (mgName 4)) (sSeq (sIf (eT (eOp fNe (eCallN 2 F_rank_of (aCons (eCall fList (aCons (eVar 1) aNil)) (aCons (eVar 3) aNil))) (eTup (aCons (eCall fLen (aCons (eLc (itL (eVar 4)) [10] (mgName 10) (eT (eOp fLt (eVar 10) (eC (.int 0)))) (eC (.int 1))) aNil)) (aCons (eCall fLen (aCons (eLc (itL (eVar 4)) [10] (mgName 10) (eT (eOp fEq (eVar 10) (eC (.int 0)))) (eC (.int 1))) aNil)) aNil))))) (sRet (eC (.bool false))) sNext) (sSeq (sPar 5 6 (aCons (eLc (itL (eVar 1)) [9] (mgName 9) (eT (eOp fEq (eCallN 2 F__law_compare (aCons (eVar 9) (aCons (eOp fIx (eVar 2) (eC (.int 0))) aNil))) (eC (.int 0)))) (eVar 9)) (aCons (eLc (itL (eVar 1)) [9] (mgName 9) (eT (eOp fEq (eCallN 2 F__law_compare (aCons (eVar 9) (aCons (eOp fIx (eVar 2) (eOp fSub (eCall fLen (aCons (eVar 2) aNil)) (eC (.int 1)))) aNil))) (eC (.int 0)))) (eVar 9)) aNil))) (sSeq (sFor (itL (eVar 1)) (mgName 7) (sIf (eT (eOp fNe (eCallN 2 F_compare (aCons (eVar 3) (aCons (eVar 7) aNil))) (eCallN 2 F__law_compare (aCons (eVar 3) (aCons (eVar 7) aNil))))) (sRet (eC (.bool false))) sNext)) (sRet (eAnd (eOp fEq (eCallN 1 F_least_of (aCons (eCall fList (aCons (eVar 1) aNil)) aNil)) (eOp fIx (eVar 5) (eC (.int 0)))) (eOp fEq (eCallN 1 F_greatest_of (aCons (eCall fList (aCons (eVar 1) aNil)) aNil)) (eOp fIx (eVar 6) (eC (.int 0)))))))))))))))
def D_law : En → M D := (eCallN 2 F__law_draws (aCons (eVar 0) (aCons (eC (.int 900)) aNil)))
def R_law : MS := (sSeq (sFor (itR1 (aCons (eC (.int 6)) aNil)) (mgName 2) (sIf (mOr (mNot (eT (eCallN 1 F__law_fractions (aCons (eVar 1) aNil)))) (mOr (mNot (eT (eCallN 1 F__law_sums (aCons (eVar 1) aNil)))) (mOr (mNot (eT (eCallN 1 F__law_parts (aCons (eVar 1) aNil)))) (mNot (eT (eCallN 1 F__law_rows (aCons (eVar 1) aNil))))))) (sRet (eC (.bool false))) sNext)) (sSeq (sFor (itL (eLst (aCons (eC .none) (aCons (eTup (aCons (eC (.int 1)) (aCons (eC (.int 0)) aNil))) (aCons (eTup (aCons (eC (.int 2)) (aCons (eC (.int 4)) aNil))) (aCons (eTup (aCons (eC (.int 1)) (aCons (eUn fNeg (eC (.int 1))) aNil))) (aCons (eTup (aCons (eC (.bool true)) (aCons (eC (.int 1)) aNil))) (aCons (eTup (aCons (eC (.int 1)) (aCons (eC (.int 1)) (aCons (eC (.int 1)) aNil)))) (aCons (eLst (aCons (eC (.int 1)) (aCons (eC (.int 1)) aNil))) (aCons (eTup (aCons (eC (.str "1")) (aCons (eC (.int 1)) aNil))) (aCons (eTup (aCons (eTup (aCons (eC (.int 1)) (aCons (eC (.int 1)) aNil))) (aCons (eTup (aCons (eC (.int 1)) (aCons (eC (.int 1)) aNil))) aNil))) aNil))))))))))) (mgName 3) (sIf (eT (eOp fNotB (eCallN 1 F_is_fraction (aCons (eVar 3) aNil)) (eC (.bool false)))) (sRet (eC (.bool false))) sNext)) (sSeq (sFor (itL (eLst (aCons (eC .none) (aCons (eTup (aCons (eTup (aCons (eC (.int 1)) (aCons (eC (.int 1)) aNil))) (aCons (eTup (aCons (eC (.int 1)) (aCons (eC (.int 1)) aNil))) aNil))) (aCons (eTup (aCons (eTup (aCons (eC (.int 1)) (aCons (eC (.int 1)) aNil))) (aCons (eTup (aCons (eC (.int 0)) (aCons (eC (.int 1)) aNil))) (aCons (eTup (aCons (eC (.int 2)) (aCons (eC (.int 1)) aNil))) aNil)))) (aCons (eTup (aCons (eTup (aCons (eC (.int 1)) (aCons (eC (.int 1)) aNil))) (aCons (eTup (aCons (eC (.int 1)) (aCons (eC (.int 1)) aNil))) (aCons (eTup (aCons (eC (.int 0)) (aCons (eC (.int 1)) aNil))) aNil)))) (aCons (eTup (aCons (eTup (aCons (eC (.int 1)) (aCons (eC (.int 1)) aNil))) (aCons (eTup (aCons (eC (.int 1)) (aCons (eC (.int 1)) aNil))) (aCons (eTup (aCons (eUn fNeg (eC (.int 2))) (aCons (eC (.int 1)) aNil))) aNil)))) (aCons (eLst (aCons (eTup (aCons (eC (.int 1)) (aCons (eC (.int 1)) aNil))) (aCons (eTup (aCons (eC (.int 0)) (aCons (eC (.int 1)) aNil))) (aCons (eTup (aCons (eC (.int 0)) (aCons (eC (.int 1)) aNil))) aNil)))) (aCons (eTup (aCons (eTup (aCons (eC (.int 1)) (aCons (eC (.int 1)) aNil))) (aCons (eTup (aCons (eC (.int 0)) (aCons (eC (.int 1)) aNil))) (aCons (eC (.int 0)) aNil)))) aNil))))))))) (mgName 3) (sIf (eT (eOp fNotB (eCallN 1 F_is_root (aCons (eVar 3) aNil)) (eC (.bool false)))) (sRet (eC (.bool false))) sNext)) (sRet (eC (.bool true))))))


/-! ### the meanings, step by step -/
local macro_rules | `(tactic| kpt_turns) => `(tactic| simp only [bodyF, env0, sSeq, sAsg, sRet, sIf, sPar, sPar3, sNext, sBreak, eCallN, eCall, aCons, aNil, eOp, eUn, eVar, eC, eT, eTup, eLst, eIf, eAnd, eOr, eNot, mAnd, mOr, mNot, mgName, mgTup, mgLst, mgCons, mgNil,
  fI, fAdd, fSub, fMul, fDiv, fMod, fLt, fLe, fGt, fGe, fIx, fNeg, fLen, fAbs, fIsN, fNotN, fIsB, fNotB, fSubB, true_and, and_true, List.map_cons, List.map_nil, List.length_cons, List.length_nil, List.replicate_succ, List.replicate_zero, List.cons_append, List.nil_append,
  List.getElem?_cons_zero, List.getElem?_cons_succ, List.set_cons_zero, List.set_cons_succ, Nat.reduceAdd, Nat.reduceSub, Nat.zero_add, Nat.sub_self, decide_eq_true_eq])

theorem okD_int (i : Int) : okD (.int i) := ⟨rfl, rfl⟩
theorem eqv_int (i j : Int) : PyData.eqv (.int i) (.int j) = decide (i = j) := by
  show (i == j) = _
  by_cases h : i = j <;> simp [h]

/-! ### the greatest common part -/
theorem gcd_step (a b : Int) : Int.gcd b (a.fmod b) = Int.gcd a b := by
  rw [Int.fmod_def, Int.gcd_sub_mul_left_right, Int.gcd_comm]
theorem natAbs_fmod_lt (a : Int) {b : Int} (h : b ≠ 0) : (a.fmod b).natAbs < b.natAbs := by
  rcases Int.lt_or_gt_of_ne h with hb | hb
  · have h1 : (-(a.fmod b)) = (-a).fmod (-b) := by
      rw [Int.fmod_def, Int.fmod_def, Int.neg_fdiv_neg]
      grind
    have h2 := Int.fmod_lt_of_pos (-a) (b := -b) (by omega)
    have h3 := Int.fmod_nonneg_of_pos (-a) (b := -b) (by omega)
    omega
  · have h2 := Int.fmod_lt_of_pos a hb
    have h3 := Int.fmod_nonneg_of_pos a hb
    omega
theorem common_ok {a b : Int} {Q : D → Prop} (h : Q (.int (Int.gcd a b : Nat))) : F_common [.int a, .int b] Q := by
  have key : ∀ (n : Nat) (a b : Int) (P : Po), b.natAbs < n → (∀ g : Int, g.natAbs = Int.gcd a b → P.nx [.va (.int g), .va (.int 0)]) →
      whileW (eT (eOp fNe (eVar 1) (eC (.int 0)))) (sPar 0 1 (aCons (eVar 1) (aCons (eOp fMod (eVar 0) (eVar 1)) aNil))) n [.va (.int a), .va (.int b)] P := by
    intro n
    induction n with
    | zero => intro a b P h; omega
    | succ n ih =>
      intro a b P hn hP
      unfold whileW
      kpt_turns
      refine ⟨okD_int _, okD_int _, ?_⟩
      rw [eqv_int]
      by_cases hb : b = 0
      · subst hb
        simp only [decide_true, Bool.not_true, Bool.false_eq_true, if_false]
        exact hP a (by simp)
      · simp only [hb, decide_false, Bool.not_false, if_true]
        refine ⟨fun z => hb z, ?_⟩
        exact ih b _ _ (by have := natAbs_fmod_lt a hb; omega) fun g hg => hP g (by rw [hg, gcd_step])
  unfold F_common
  kpt_turns
  refine ⟨b.natAbs + 1, key _ a b _ (by omega) fun g hg => ?_⟩
  kpt_turns
  have e : (if g < 0 then -g else g) = ((Int.gcd a b : Nat) : Int) := by
    rw [← hg]
    split <;> omega
  rw [e]
  exact h

/-! ### fractions -/
abbrev dr (q : Rat) : D := .tuple [.int q.num, .int (q.den : Nat)]
theorem okD_dr (q : Rat) : okD (dr q) := ⟨rfl, rfl⟩
theorem eqv_dr (p q : Rat) : PyData.eqv (dr p) (dr q) = decide (p = q) := by
  show ((p.num == q.num) && (((p.den : Int) == (q.den : Int)) && true)) = _
  by_cases h : p = q
  · subst h; simp
  · rw [decide_eq_false h]
    by_cases h1 : p.num = q.num
    · by_cases h2 : p.den = q.den
      · exact absurd (Rat.ext h1 h2) h
      · have : ((p.den : Int) == (q.den : Int)) = false := by
          rw [beq_eq_false_iff_ne]; omega
        rw [this]; simp
    · have : (p.num == q.num) = false := by rwa [beq_eq_false_iff_ne]
      rw [this]; simp
theorem isq (g : Int) : 0 ≤ g * g := by
  rcases Int.le_total 0 g with z | z
  · exact Int.mul_nonneg z z
  · exact Int.mul_nonneg_of_nonpos_of_nonpos z z
/-- the signed greatest part divides both; what is left is the fraction -/
theorem dr_of {n d g : Int} (hd : d ≠ 0) (hg : g.natAbs = Int.gcd n d) (hs : 0 < g * d) : PyData.tuple [.int (n.fdiv g), .int (d.fdiv g)] = dr (Rat.divInt n d) := by
  have h1 := Rat.num_divInt n d
  have h2 := Rat.den_divInt n d
  rw [if_neg hd] at h2
  rw [Int.gcd_comm] at h1 h2
  have hg0 : g ≠ 0 := fun z => by simp [z] at hs
  have gn : (g.natAbs : Int) ∣ n := by rw [hg]; exact Int.gcd_dvd_left ..
  have gd : (g.natAbs : Int) ∣ d := by rw [hg]; exact Int.gcd_dvd_right ..
  have gn' : g ∣ n := by rwa [Int.natAbs_dvd] at gn
  have gd' : g ∣ d := by rwa [Int.natAbs_dvd] at gd
  obtain ⟨x, hx⟩ := gn'
  obtain ⟨y, hy⟩ := gd'
  rw [← hg] at h1 h2
  have e1 : n.fdiv g = x := by rw [hx]; exact Int.mul_fdiv_cancel_left x hg0
  have e2 : d.fdiv g = y := by rw [hy]; exact Int.mul_fdiv_cancel_left y hg0
  have gpos : (0 : Int) < (g.natAbs : Int) := by omega
  rw [e1, e2]
  unfold dr
  rw [h1, h2]
  have hy0 : y ≠ 0 := fun z => hd (by rw [hy, z]; simp)
  have hyp : 0 < y := by
    rcases Int.lt_or_gt_of_ne hy0 with h | h
    · have : g * d ≤ 0 := by
        rw [hy, ← Int.mul_assoc]
        exact Int.mul_nonpos_of_nonneg_of_nonpos (isq g) (by omega)
      omega
    · exact h
  have e4 : d.natAbs / g.natAbs = y.natAbs := by
    rw [hy, Int.natAbs_mul]
    exact Nat.mul_div_cancel_left _ (by omega)
  have e3 : d.sign * n / (g.natAbs : Int) = x := by
    refine Int.ediv_eq_of_eq_mul_left (by omega) ?_
    rw [hx, hy, Int.sign_mul, Int.sign_eq_one_of_pos hyp, Int.mul_one, ← Int.mul_assoc, Int.sign_mul_self, Int.mul_comm]
  rw [e3, e4]
  have : ((y.natAbs : Nat) : Int) = y := by omega
  rw [this]
/-- few bits -/
def sm (k : Nat) (i : Int) : Prop := i.natAbs < 2 ^ k
def bz (k : Nat) (q : Rat) : Prop := sm k q.num ∧ q.den < 2 ^ k
theorem log2_sm {k : Nat} {i : Int} (h : sm k i) : i.natAbs.log2 ≤ k := by
  by_cases h0 : i.natAbs = 0
  · rw [h0]; simp
  · exact Nat.le_of_lt ((Nat.log2_lt h0).mpr h)
theorem sm_mono {k l : Nat} {i : Int} (h : sm k i) (hk : k ≤ l) : sm l i := Nat.lt_of_lt_of_le h (Nat.pow_le_pow_right (by decide) hk)
theorem sm_mul {k l : Nat} {i j : Int} (h : sm k i) (h' : sm l j) : sm (k + l) (i * j) := by
  unfold sm at *
  rw [Int.natAbs_mul, Nat.pow_add]
  exact Nat.mul_lt_mul_of_lt_of_lt h h'
theorem sm_add {k : Nat} {i j : Int} (h : sm k i) (h' : sm k j) : sm (k + 1) (i + j) := by
  unfold sm at *
  rw [Nat.pow_succ]
  have := Int.natAbs_add_le i j
  omega
theorem sm_neg {k : Nat} {i : Int} (h : sm k i) : sm k (-i) := by
  unfold sm at *
  rwa [Int.natAbs_neg]
theorem sm_sub {k : Nat} {i j : Int} (h : sm k i) (h' : sm k j) : sm (k + 1) (i - j) := by
  rw [Int.sub_eq_add_neg]; exact sm_add h (sm_neg h')
theorem cmul {k l : Nat} {i j : Int} (h : sm k i) (h' : sm l j) (hk : k + l < 1000000) : CMulW i j := by
  have := log2_sm h
  have := log2_sm h'
  unfold CMulW
  omega
theorem cdv {k : Nat} {i j : Int} (h : sm k j) (hj : j ≠ 0) (hk : k < 9000) : CDv i j := ⟨hj, by have := log2_sm h; omega⟩
theorem sm_den {k : Nat} {q : Rat} (h : bz k q) : sm k (q.den : Int) := by
  unfold sm; rw [Int.natAbs_natCast]; exact h.2
/-- what a fraction is written with bounds it -/
theorem bz_div {k : Nat} {n d : Int} (hd : d ≠ 0) (hn : sm k n) (hk : sm k d) : bz k (Rat.divInt n d) := by
  have h1 := Rat.num_divInt n d
  have h2 := Rat.den_divInt n d
  rw [if_neg hd] at h2
  refine ⟨?_, ?_⟩
  · unfold sm at *
    rw [h1]
    refine Nat.lt_of_le_of_lt ?_ hn
    rw [Int.natAbs_ediv_of_dvd (by
      have := Int.gcd_dvd_right (a := d) (b := n)
      exact Int.dvd_mul_of_dvd_right this)]
    refine Nat.le_trans (Nat.div_le_self _ _) ?_
    rw [Int.natAbs_mul, Int.natAbs_sign_of_ne_zero hd, Nat.one_mul]
    exact Nat.le_refl _
  · rw [h2]
    exact Nat.lt_of_le_of_lt (Nat.div_le_self _ _) hk
theorem fraction_ok {k : Nat} {n d : Int} {Q : D → Prop} (hd : d ≠ 0) (hk : sm k d) (h9 : k < 9000) (h : Q (dr (Rat.divInt n d))) : F_fraction [.int n, .int d] Q := by
  unfold F_fraction
  kpt_turns
  refine common_ok ?_
  have hg : (Int.gcd n d) ≠ 0 := fun z => hd (Int.gcd_eq_zero_iff.mp z).2
  have hgs : sm k (Int.gcd n d : Nat) := by
    unfold sm at *
    rw [Int.natAbs_natCast]
    exact Nat.lt_of_le_of_lt (Nat.le_of_dvd (by omega) (Int.gcd_dvd_natAbs_right ..)) hk
  by_cases hn : d < 0
  · simp only [hn, if_true, decide_true]
    refine ⟨cdv (sm_neg hgs) (by omega) h9, cdv (sm_neg hgs) (by omega) h9, by decide, ?_⟩
    rw [dr_of hd (by rw [Int.natAbs_neg, Int.natAbs_natCast]) (by have := Int.mul_pos_of_neg_of_neg (a := -((Int.gcd n d : Nat) : Int)) (b := d) (by omega) hn; exact this)]
    exact h
  · simp only [hn, if_false, decide_false, Bool.false_eq_true]
    refine ⟨cdv hgs (by omega) h9, cdv hgs (by omega) h9, by decide, ?_⟩
    rw [dr_of hd (by rw [Int.natAbs_natCast]) (Int.mul_pos (by omega) (by omega))]
    exact h


theorem bz_mono {k l : Nat} {q : Rat} (h : bz k q) (hk : k ≤ l) : bz l q := ⟨sm_mono h.1 hk, Nat.lt_of_lt_of_le h.2 (Nat.pow_le_pow_right (by decide) hk)⟩
theorem den_ne (q : Rat) : (q.den : Int) ≠ 0 := by
  have := q.den_nz
  omega
theorem num_ne {q : Rat} (h : q ≠ 0) : q.num ≠ 0 := fun z => h (Rat.num_eq_zero.mp z)
theorem add_div (p q : Rat) : Rat.divInt (p.num * q.den + q.num * p.den) (p.den * q.den) = p + q := by
  rw [Rat.add_def', ← Rat.divInt_ofNat, Int.natCast_mul]
theorem sub_div (p q : Rat) : Rat.divInt (p.num * q.den - q.num * p.den) (p.den * q.den) = p - q := by
  rw [Rat.sub_def', ← Rat.divInt_ofNat, Int.natCast_mul]
theorem mul_div (p q : Rat) : Rat.divInt (p.num * q.num) (p.den * q.den) = p * q := by
  rw [Rat.mul_def', ← Rat.divInt_ofNat, Int.natCast_mul]
theorem div_div (p q : Rat) : Rat.divInt (p.num * q.den) (p.den * q.num) = p / q := by
  rw [Rat.div_def, Rat.inv_def, ← Rat.divInt_mul_divInt, Rat.num_divInt_den]
theorem bz_add {k l : Nat} {p q : Rat} (h : bz k p) (h' : bz l q) : bz (k + l + 1) (p + q) := by
  rw [← add_div]
  refine bz_div (Int.mul_ne_zero (den_ne p) (den_ne q)) ?_ ?_
  · refine sm_add (sm_mul h.1 (sm_den h')) ?_
    rw [Nat.add_comm]; exact sm_mul h'.1 (sm_den h)
  · exact sm_mono (sm_mul (sm_den h) (sm_den h')) (by omega)
theorem bz_neg {k : Nat} {p : Rat} (h : bz k p) : bz k (-p) := ⟨sm_neg h.1, h.2⟩
theorem bz_sub {k l : Nat} {p q : Rat} (h : bz k p) (h' : bz l q) : bz (k + l + 1) (p - q) := by
  rw [Rat.sub_eq_add_neg]; exact bz_add h (bz_neg h')
theorem bz_mul {k l : Nat} {p q : Rat} (h : bz k p) (h' : bz l q) : bz (k + l) (p * q) := by
  rw [← mul_div]
  exact bz_div (Int.mul_ne_zero (den_ne p) (den_ne q)) (sm_mul h.1 h'.1) (sm_mul (sm_den h) (sm_den h'))
theorem bz_over {k l : Nat} {p q : Rat} (h : bz k p) (h' : bz l q) (hq : q ≠ 0) : bz (k + l) (p / q) := by
  rw [← div_div]
  exact bz_div (Int.mul_ne_zero (den_ne p) (num_ne hq)) (sm_mul h.1 (sm_den h')) (sm_mul (sm_den h) h'.1)

section
variable {k l : Nat} {p q : Rat} {Q : D → Prop}
theorem atI_0 (a b : D) : atI [a, b] 0 = some a := rfl
theorem atI_1 (a b : D) : atI [a, b] 1 = some b := rfl
theorem at3_0 (a b c : D) : atI [a, b, c] 0 = some a := rfl
theorem at3_1 (a b c : D) : atI [a, b, c] 1 = some b := rfl
theorem at3_2 (a b c : D) : atI [a, b, c] 2 = some c := rfl
local macro_rules | `(tactic| kpc_turns) => `(tactic| (kpt_turns; try simp only [atI_0, atI_1, at3_0, at3_1, at3_2]))
theorem sp_added (h : bz k p) (h' : bz l q) (hk : k + l < 8000) (hQ : Q (dr (p + q))) : F_added [dr p, dr q] Q := by
  unfold F_added
  kpc_turns
  refine ⟨cmul h.1 (sm_den h') (by omega), cmul h'.1 (sm_den h) (by omega), cmul (sm_den h) (sm_den h') (by omega), ?_⟩
  refine fraction_ok (Int.mul_ne_zero (den_ne p) (den_ne q)) (sm_mul (sm_den h) (sm_den h')) (by omega) ?_
  rw [add_div]; exact hQ
local macro_rules | `(tactic| dl_keeps) => `(tactic| (with_reducible apply sp_added; (focus pv_meta); (focus pv_meta); (focus pv_meta)))
theorem sp_minus (h : bz k p) (h' : bz l q) (hk : k + l < 8000) (hQ : Q (dr (p - q))) : F_minus [dr p, dr q] Q := by
  unfold F_minus
  kpc_turns
  refine ⟨cmul h.1 (sm_den h') (by omega), cmul h'.1 (sm_den h) (by omega), cmul (sm_den h) (sm_den h') (by omega), ?_⟩
  refine fraction_ok (Int.mul_ne_zero (den_ne p) (den_ne q)) (sm_mul (sm_den h) (sm_den h')) (by omega) ?_
  rw [sub_div]; exact hQ
local macro_rules | `(tactic| dl_keeps) => `(tactic| (with_reducible apply sp_minus; (focus pv_meta); (focus pv_meta); (focus pv_meta)))
theorem sp_times (h : bz k p) (h' : bz l q) (hk : k + l < 8000) (hQ : Q (dr (p * q))) : F_times [dr p, dr q] Q := by
  unfold F_times
  kpc_turns
  refine ⟨cmul h.1 h'.1 (by omega), cmul (sm_den h) (sm_den h') (by omega), ?_⟩
  refine fraction_ok (Int.mul_ne_zero (den_ne p) (den_ne q)) (sm_mul (sm_den h) (sm_den h')) (by omega) ?_
  rw [mul_div]; exact hQ
local macro_rules | `(tactic| dl_keeps) => `(tactic| (with_reducible apply sp_times; (focus pv_meta); (focus pv_meta); (focus pv_meta)))
theorem sp_over (h : bz k p) (h' : bz l q) (hq : q ≠ 0) (hk : k + l < 8000) (hQ : Q (dr (p / q))) : F_over [dr p, dr q] Q := by
  unfold F_over
  kpc_turns
  refine ⟨cmul h.1 (sm_den h') (by omega), cmul (sm_den h) h'.1 (by omega), ?_⟩
  refine fraction_ok (Int.mul_ne_zero (den_ne p) (num_ne hq)) (sm_mul (sm_den h) h'.1) (by omega) ?_
  rw [div_div]; exact hQ
local macro_rules | `(tactic| dl_keeps) => `(tactic| (with_reducible apply sp_over; (focus pv_meta); (focus pv_meta); (focus pv_meta); (focus pv_meta)))
theorem sp_turned (hQ : Q (dr (-p))) : F_turned [dr p] Q := by
  unfold F_turned
  kpc_turns
  exact ⟨by decide, hQ⟩
local macro_rules | `(tactic| dl_keeps) => `(tactic| (with_reducible apply sp_turned))
theorem dr_sq (p : Rat) : PyData.tuple [.int (p.num * p.num), .int ((p.den : Int) * (p.den : Int))] = dr (p * p) := by
  have e : p * p = p ^ 2 := by rw [Rat.pow_succ, Rat.pow_one]
  have h1 : (p * p).num = p.num * p.num := by rw [e, Rat.num_pow]; exact Int.pow_succ _ _ |>.trans (by rw [Int.pow_succ, Int.pow_zero, Int.one_mul])
  have h2 : (p * p).den = p.den * p.den := by rw [e, Rat.den_pow]; exact Nat.pow_succ .. |>.trans (by rw [Nat.pow_one])
  unfold dr
  rw [h1, h2, Int.natCast_mul]
theorem sp_square (h : bz k p) (hk : k < 8000) (hQ : Q (dr (p * p))) : F_square [dr p] Q := by
  unfold F_square
  kpc_turns
  refine ⟨cmul h.1 h.1 (by omega), cmul (sm_den h) (sm_den h) (by omega), by decide, ?_⟩
  rw [dr_sq]; exact hQ
local macro_rules | `(tactic| dl_keeps) => `(tactic| (with_reducible apply sp_square; (focus pv_meta); (focus pv_meta)))
theorem sm_2 : sm 2 2 := by unfold sm; decide
theorem bz_2 : bz 2 2 := ⟨by unfold sm; decide, by decide⟩
theorem sp_half (h : bz k p) (hk : k < 8000) (hQ : Q (dr (p / 2))) : F_half [dr p] Q := by
  unfold F_half
  kpc_turns
  refine ⟨cmul sm_2 (sm_den h) (by omega), ?_⟩
  refine fraction_ok (Int.mul_ne_zero (by decide) (den_ne p)) (sm_mul sm_2 (sm_den h)) (by omega) ?_
  have e := div_div p 2
  rw [show ((2 : Rat).num) = 2 from rfl, show ((2 : Rat).den : Int) = 1 from rfl, Int.mul_one, Int.mul_comm] at e
  rw [e]; exact hQ
local macro_rules | `(tactic| dl_keeps) => `(tactic| (with_reducible apply sp_half; (focus pv_meta); (focus pv_meta)))
theorem sp_sign (hQ : Q (.int p.num.sign)) : F_sign [dr p] Q := by
  unfold F_sign F_sign_of
  kpc_turns
  have e : ((if decide (0 < p.num) = true then 1 else 0) - (if decide (p.num < 0) = true then 1 else 0) : Int) = p.num.sign := by
    rcases Int.lt_trichotomy p.num 0 with h | h | h
    · rw [Int.sign_eq_neg_one_of_neg h, decide_eq_true h, decide_eq_false (by omega)]; rfl
    · rw [h]; rfl
    · rw [Int.sign_eq_one_of_pos h, decide_eq_true h, decide_eq_false (by omega)]; rfl
  simp only [decide_eq_true_eq] at e
  rw [e]; exact hQ
local macro_rules | `(tactic| dl_keeps) => `(tactic| (with_reducible apply sp_sign))
theorem sp__law_sgn (hQ : Q (.int p.num.sign)) : F__law_sgn [dr p] Q := by
  unfold F__law_sgn
  kpc_turns
  rcases Int.lt_trichotomy p.num 0 with h | h | h
  · rw [Int.sign_eq_neg_one_of_neg h] at hQ
    simp only [show ¬ 0 < p.num by omega, h, if_true, if_false]; exact hQ
  · rw [h] at hQ
    simp only [h, Int.lt_irrefl, if_false]; exact hQ
  · rw [Int.sign_eq_one_of_pos h] at hQ
    simp only [show ¬ p.num < 0 by omega, h, if_true, if_false]; exact hQ

local macro_rules | `(tactic| dl_keeps) => `(tactic| (with_reducible apply sp__law_sgn))
/-! ### the law's own fractions -/
theorem step_int (a b : Nat) : ((a : Nat) : Int) - ((a : Nat) : Int).fdiv (b : Nat) * ((b : Nat) : Int) = ((a % b : Nat) : Int) := by
  rw [← Int.ofNat_fdiv]
  have := Nat.div_add_mod a b
  have e : (a : Int) = ((a / b * b + a % b : Nat) : Int) := by rw [Nat.mul_comm, this]
  rw [Int.natCast_add, Int.natCast_mul] at e
  omega
theorem frac_loop : ∀ (ds : List D) (a b m k : Nat) (u v s : Sl) (P : Po), b ≤ a → a * b < 2 ^ m → b < 2 ^ k → k < 9000 → m < 100000 → m < ds.length → (∀ s', P.nx [u, v, .va (.int (Nat.gcd a b : Nat)), .va (.int 0), s']) →
    forW (mgName 4) (sSeq (sIf (eT (eOp fEq (eVar 3) (eC (.int 0)))) sBreak sNext) (sPar 2 3 (aCons (eVar 3) (aCons (eOp fSub (eVar 2) (eOp fMul (eOp fDiv (eVar 2) (eVar 3)) (eVar 3))) aNil)))) ds [u, v, .va (.int (a : Nat)), .va (.int (b : Nat)), s] P
  | [], a, b, m, k, u, v, s, P, _, _, _, _, _, h, _ => by simp at h
  | d :: ds, a, b, m, k, u, v, s, P, hba, hm, hb, hk, hm1, hl, hP => by
    unfold forW
    kpc_turns
    refine ⟨okD_int _, okD_int _, ?_⟩
    rw [eqv_int]
    by_cases h0 : b = 0
    · subst h0
      simp only [Int.natCast_zero, decide_true, if_true]
      simpa using hP (.va d)
    · have h0' : ¬ ((b : Nat) : Int) = 0 := by omega
      simp only [h0', decide_false, Bool.false_eq_true, if_false]
      have ha : a < 2 ^ m := Nat.lt_of_le_of_lt (Nat.le_mul_of_pos_right a (by omega)) hm
      refine ⟨⟨h0', ?_⟩, ?_, ?_⟩
      · exact Nat.lt_of_le_of_lt (log2_sm (k := k) (by unfold sm; rw [Int.natAbs_natCast]; exact hb)) hk
      · rw [← Int.ofNat_fdiv]
        exact cmul (k := m) (l := k) (by unfold sm; rw [Int.natAbs_natCast]; exact Nat.lt_of_le_of_lt (Nat.div_le_self _ _) ha) (by unfold sm; rw [Int.natAbs_natCast]; exact hb) (by omega)
      · rw [step_int]
        have hr : a % b < b := Nat.mod_lt _ (by omega)
        have h2 : 2 * (a % b) ≤ a := by
          have h3 := Nat.div_add_mod a b
          have h4 : 1 ≤ a / b := Nat.div_pos hba (by omega)
          have h5 : b * 1 ≤ b * (a / b) := Nat.mul_le_mul_left b h4
          omega
        have h6 : b * (a % b) * 2 ≤ a * b := by
          rw [Nat.mul_assoc, Nat.mul_comm (a % b) 2, Nat.mul_comm a b]
          exact Nat.mul_le_mul_left b h2
        cases m with
        | zero =>
          simp at hm
          omega
        | succ m =>
          refine frac_loop ds b (a % b) m k u v _ P (Nat.le_of_lt hr) (by rw [Nat.pow_succ] at hm; omega) (by omega) hk (by omega) (by simpa using hl) fun s' => ?_
          have e : Nat.gcd b (a % b) = Nat.gcd a b := by rw [Nat.gcd_comm b, ← Nat.gcd_rec, Nat.gcd_comm]
          rw [e]
          exact hP s'
theorem rngD_succ (n : Nat) : rngD 0 (n + 1) = .int 0 :: (List.range n).map fun i : Nat => PyData.int (0 + ((i + 1 : Nat) : Int)) := by
  unfold rngD
  rw [List.range_succ_eq_map, List.map_cons, List.map_map]
  rfl
theorem natAbs_if (n : Int) : (if n < 0 then -n else n) = ((n.natAbs : Nat) : Int) := by split <;> omega
theorem sp__law_frac {n d : Int} (hd : d ≠ 0) (hn : sm k n) (hk : sm k d) (h9 : k < 8900) (hQ : Q (dr (Rat.divInt n d))) : F__law_frac [.int n, .int d] Q := by
  unfold F__law_frac
  placed_of0
  rw [natAbs_if, natAbs_if, show (20000 : Int).toNat = 19999 + 1 from rfl, rngD_succ]
  placed_of0
  rw [eqv_int]
  have h0 : ¬ ((d.natAbs : Nat) : Int) = 0 := by omega
  have k1 : n.natAbs < 2 ^ k := hn
  have k2 : d.natAbs < 2 ^ k := hk
  rw [decide_eq_false h0]
  placed_of0
  · exact ⟨h0, Nat.lt_of_le_of_lt (log2_sm (k := k) (by unfold sm; rw [Int.natAbs_natCast]; exact k2)) (by omega)⟩
  placed_of0
  · rw [← Int.ofNat_fdiv]
    exact cmul (k := k) (l := k) (by unfold sm; rw [Int.natAbs_natCast]; exact Nat.lt_of_le_of_lt (Nat.div_le_self _ _) k1) (by unfold sm; rw [Int.natAbs_natCast]; exact k2) (by omega)
  placed_of0
  rw [step_int]
  have hr : n.natAbs % d.natAbs < d.natAbs := Nat.mod_lt _ (by omega)
  refine frac_loop _ d.natAbs (n.natAbs % d.natAbs) (k + k) k _ _ _ _ (Nat.le_of_lt hr) ?_ (by omega) (by omega) (by omega) (by rw [List.length_map, List.length_range]; omega) fun s' => ?_
  · rw [Nat.pow_add]
    exact Nat.mul_lt_mul_of_lt_of_lt k2 (by omega)
  have e : Nat.gcd d.natAbs (n.natAbs % d.natAbs) = Int.gcd n d := by
    rw [Nat.gcd_comm d.natAbs, ← Nat.gcd_rec, Nat.gcd_comm]
    rfl
  rw [e]
  have hg : (Int.gcd n d) ≠ 0 := fun z => hd (Int.gcd_eq_zero_iff.mp z).2
  have hgs : sm k (Int.gcd n d : Nat) := by
    unfold sm at *
    rw [Int.natAbs_natCast]
    exact Nat.lt_of_le_of_lt (Nat.le_of_dvd (by omega) (Int.gcd_dvd_natAbs_right ..)) hk
  placed_of0
  by_cases hp : 0 < d
  · rw [decide_eq_true hp]
    placed_of0
    · exact cdv hgs (by omega) (by omega)
    placed_of0
    · exact cdv hgs (by omega) (by omega)
    placed_of0
    rw [dr_of hd (by rw [Int.natAbs_natCast]) (Int.mul_pos (by omega) (by omega))]
    exact hQ
  · rw [decide_eq_false hp]
    placed_of0
    rw [Int.zero_sub]
    · exact cdv (sm_neg hgs) (by omega) (by omega)
    placed_of0
    rw [Int.zero_sub]
    · exact cdv (sm_neg hgs) (by omega) (by omega)
    placed_of0
    rw [Int.zero_sub]
    rw [dr_of hd (by rw [Int.natAbs_neg, Int.natAbs_natCast]) (Int.mul_pos_of_neg_of_neg (by omega) (by omega))]
    exact hQ
local macro_rules | `(tactic| dl_keeps) => `(tactic| (with_reducible apply sp__law_frac; (focus pv_meta); (focus pv_meta); (focus pv_meta); (focus pv_meta)))
theorem sp__law_add (h : bz k p) (h' : bz l q) (hk : k + l < 8000) (hQ : Q (dr (p + q))) : F__law_add [dr p, dr q] Q := by
  unfold F__law_add
  kpc_turns
  refine ⟨cmul h.1 (sm_den h') (by omega), cmul h'.1 (sm_den h) (by omega), cmul (sm_den h) (sm_den h') (by omega), ?_⟩
  refine sp__law_frac (k := k + l + 1) (Int.mul_ne_zero (den_ne p) (den_ne q)) (sm_add (sm_mul h.1 (sm_den h')) (Nat.add_comm l k ▸ sm_mul h'.1 (sm_den h))) (sm_mono (sm_mul (sm_den h) (sm_den h')) (by omega)) (by omega) ?_
  rw [add_div]; exact hQ
local macro_rules | `(tactic| dl_keeps) => `(tactic| (with_reducible apply sp__law_add; (focus pv_meta); (focus pv_meta); (focus pv_meta)))
theorem sp__law_less (h : bz k p) (h' : bz l q) (hk : k + l < 8000) (hQ : Q (dr (p - q))) : F__law_less [dr p, dr q] Q := by
  unfold F__law_less
  kpc_turns
  refine ⟨cmul h.1 (sm_den h') (by omega), cmul h'.1 (sm_den h) (by omega), cmul (sm_den h) (sm_den h') (by omega), ?_⟩
  refine sp__law_frac (k := k + l + 1) (Int.mul_ne_zero (den_ne p) (den_ne q)) (sm_sub (sm_mul h.1 (sm_den h')) (Nat.add_comm l k ▸ sm_mul h'.1 (sm_den h))) (sm_mono (sm_mul (sm_den h) (sm_den h')) (by omega)) (by omega) ?_
  rw [sub_div]; exact hQ
local macro_rules | `(tactic| dl_keeps) => `(tactic| (with_reducible apply sp__law_less; (focus pv_meta); (focus pv_meta); (focus pv_meta)))
theorem sp__law_mul (h : bz k p) (h' : bz l q) (hk : k + l < 8000) (hQ : Q (dr (p * q))) : F__law_mul [dr p, dr q] Q := by
  unfold F__law_mul
  kpc_turns
  refine ⟨cmul h.1 h'.1 (by omega), cmul (sm_den h) (sm_den h') (by omega), ?_⟩
  refine sp__law_frac (k := k + l) (Int.mul_ne_zero (den_ne p) (den_ne q)) (sm_mul h.1 h'.1) (sm_mul (sm_den h) (sm_den h')) (by omega) ?_
  rw [mul_div]; exact hQ
local macro_rules | `(tactic| dl_keeps) => `(tactic| (with_reducible apply sp__law_mul; (focus pv_meta); (focus pv_meta); (focus pv_meta)))
theorem sp__law_over (h : bz k p) (h' : bz l q) (hq : q ≠ 0) (hk : k + l < 8000) (hQ : Q (dr (p / q))) : F__law_over [dr p, dr q] Q := by
  unfold F__law_over
  kpc_turns
  refine ⟨cmul h.1 (sm_den h') (by omega), cmul (sm_den h) h'.1 (by omega), ?_⟩
  refine sp__law_frac (k := k + l) (Int.mul_ne_zero (den_ne p) (num_ne hq)) (sm_mul h.1 (sm_den h')) (sm_mul (sm_den h) h'.1) (by omega) ?_
  rw [div_div]; exact hQ
local macro_rules | `(tactic| dl_keeps) => `(tactic| (with_reducible apply sp__law_over; (focus pv_meta); (focus pv_meta); (focus pv_meta); (focus pv_meta)))
end
local macro_rules | `(tactic| kpc_turns) => `(tactic| (kpt_turns; try simp only [atI_0, atI_1, at3_0, at3_1, at3_2]))
local macro_rules | `(tactic| dl_keeps) => `(tactic| (with_reducible apply sp_added; (focus pv_meta); (focus pv_meta); (focus pv_meta)))
local macro_rules | `(tactic| dl_keeps) => `(tactic| (with_reducible apply sp_minus; (focus pv_meta); (focus pv_meta); (focus pv_meta)))
local macro_rules | `(tactic| dl_keeps) => `(tactic| (with_reducible apply sp_times; (focus pv_meta); (focus pv_meta); (focus pv_meta)))
local macro_rules | `(tactic| dl_keeps) => `(tactic| (with_reducible apply sp_over; (focus pv_meta); (focus pv_meta); (focus pv_meta); (focus pv_meta)))
local macro_rules | `(tactic| dl_keeps) => `(tactic| (with_reducible apply sp_turned))
local macro_rules | `(tactic| dl_keeps) => `(tactic| (with_reducible apply sp_square; (focus pv_meta); (focus pv_meta)))
local macro_rules | `(tactic| dl_keeps) => `(tactic| (with_reducible apply sp_half; (focus pv_meta); (focus pv_meta)))
local macro_rules | `(tactic| dl_keeps) => `(tactic| (with_reducible apply sp_sign))
local macro_rules | `(tactic| dl_keeps) => `(tactic| (with_reducible apply sp__law_sgn))
local macro_rules | `(tactic| dl_keeps) => `(tactic| (with_reducible apply sp__law_frac; (focus pv_meta); (focus pv_meta); (focus pv_meta); (focus pv_meta)))
local macro_rules | `(tactic| dl_keeps) => `(tactic| (with_reducible apply sp__law_add; (focus pv_meta); (focus pv_meta); (focus pv_meta)))
local macro_rules | `(tactic| dl_keeps) => `(tactic| (with_reducible apply sp__law_less; (focus pv_meta); (focus pv_meta); (focus pv_meta)))
local macro_rules | `(tactic| dl_keeps) => `(tactic| (with_reducible apply sp__law_mul; (focus pv_meta); (focus pv_meta); (focus pv_meta)))
local macro_rules | `(tactic| dl_keeps) => `(tactic| (with_reducible apply sp__law_over; (focus pv_meta); (focus pv_meta); (focus pv_meta); (focus pv_meta)))


/-! ### sizes by themselves -/
theorem bz_0 : bz 1 0 := ⟨by unfold sm; decide, by decide⟩
theorem bz_1 : bz 1 1 := ⟨by unfold sm; decide, by decide⟩
local macro_rules | `(tactic| dl_puts) => `(tactic| first
  | with_reducible assumption
  | with_reducible exact bz_0
  | with_reducible exact bz_1
  | with_reducible exact bz_2
  | ((with_reducible apply bz_add) <;> dl_puts)
  | ((with_reducible apply bz_sub) <;> dl_puts)
  | ((with_reducible apply bz_mul) <;> dl_puts)
  | ((with_reducible apply bz_neg) <;> dl_puts))
local macro_rules | `(tactic| kpc_g) => `(tactic| with_reducible assumption)
local macro_rules | `(tactic| pv_meta) => `(tactic| first | omega | dl_puts | kpc_g | assumption)
local macro_rules | `(tactic| placed_of1) => `(tactic| repeat (first | tb_rel | tb_start | dl_keeps))
theorem cN : c_NOTHING = dr 0 := rfl
theorem lit01 : PyData.tuple [.int 0, .int 1] = dr 0 := rfl
theorem lit11 : PyData.tuple [.int 1, .int 1] = dr 1 := rfl
theorem lit21 : PyData.tuple [.int 2, .int 1] = dr 2 := rfl
abbrev rt (a b c : Rat) : D := .tuple [dr a, dr b, dr c]
section
variable {k l m ka kb kc kd ke kf : Nat} {a b c d e f p q : Rat} {Q : D → Prop}
theorem sp_plain (h : Q (rt a 0 0)) : F_plain [dr a] Q := by
  unfold F_plain
  placed_of0
  exact h
local macro_rules | `(tactic| dl_keeps) => `(tactic| (with_reducible apply sp_plain))
theorem sg1_sg (s t : Int) : sgn p = p.num.sign := rfl
theorem num_c (hc : 0 ≤ c) : (0 < c.num) ↔ c ≠ 0 := by
  have h1 : 0 ≤ c.num := Rat.num_nonneg.mpr hc
  have h2 := Rat.num_eq_zero (q := c)
  constructor
  · intro z y
    rw [y] at z
    exact absurd z (by decide)
  · intro z
    have : c.num ≠ 0 := fun y => z (h2.mp y)
    omega
/-! sizes of ints -/
theorem sm_sgn (i : Int) : sm 1 i.sign := by
  unfold sm
  rcases Int.lt_trichotomy i 0 with h | h | h
  · rw [Int.sign_eq_neg_one_of_neg h]; decide
  · rw [h]; decide
  · rw [Int.sign_eq_one_of_pos h]; decide
theorem sg1_def (s t : Int) (hs : sgn a = s) (ht : (if c = 0 then 0 else sgn b) = t) : sg1 a b c = if s = t ∨ t = 0 then s else if s = 0 then t else s * sgn (a * a - b * b * c) := by
  unfold sg1
  rw [hs, ht]
theorem sp_sign_of_root (ha : bz ka a) (hb : bz kb b) (hc : bz kc c) (hk : 2 * ka + 2 * kb + kc < 7900) (h : Q (.int (sg1 a b c))) : F_sign_of_root [rt a b c] Q := by
  unfold F_sign_of_root
  placed_of0
  dl_keeps
  placed_of0
  rw [cN, eqv_dr]
  rw [show a.num.sign = sgn a from rfl]
  have hss : sm 1 (sgn a) := sm_sgn _
  by_cases hc0 : c = 0
  · have e := sg1_def (a := a) (b := b) (c := c) _ 0 rfl (by rw [if_pos hc0])
    rw [if_pos (.inr rfl)] at e
    rw [decide_eq_true hc0]
    placed_of0
    rw [eqv_int]
    by_cases h1 : sgn a = 0
    · rw [decide_eq_true h1]
      placed_of0
      rw [← e]; exact h
    · rw [decide_eq_false h1]
      placed_of0
      rw [← e]; exact h
  have e := sg1_def (a := a) (b := b) (c := c) _ _ rfl (by rw [if_neg hc0])
  rw [decide_eq_false hc0]
  placed_of0
  dl_keeps
  placed_of0
  rw [show b.num.sign = sgn b from rfl]
  generalize sgn b = t at *
  generalize sgn a = s at *
  rw [eqv_int]
  by_cases h1 : s = t
  · rw [decide_eq_true h1]
    placed_of0
    rw [if_pos (.inl h1)] at e
    rw [← e]; exact h
  rw [decide_eq_false h1]
  placed_of0
  rw [eqv_int]
  by_cases h2 : t = 0
  · rw [decide_eq_true h2]
    placed_of0
    rw [if_pos (.inr h2)] at e
    rw [← e]; exact h
  rw [decide_eq_false h2]
  rw [if_neg (by omega)] at e
  placed_of0
  rw [eqv_int]
  by_cases h3 : s = 0
  · rw [decide_eq_true h3]
    placed_of0
    rw [if_pos h3] at e
    rw [← e]; exact h
  rw [decide_eq_false h3]
  rw [if_neg h3] at e
  placed_of0
  dl_keeps
  placed_of0
  dl_keeps
  placed_of0
  dl_keeps
  placed_of0
  dl_keeps
  placed_of0
  dl_keeps
  placed_of0
  rw [eqv_int]
  rw [show (a * a - b * b * c).num.sign = sgn (a * a - b * b * c) from rfl]
  by_cases h4 : sgn (a * a - b * b * c) = 0
  · rw [h4, Int.mul_zero] at e
    rw [h4, decide_eq_true rfl]
    placed_of0
    rw [← e]; exact h
  · rw [decide_eq_false h4]
    placed_of0
    · exact cmul hss (sm_sgn _) (by decide)
    placed_of0
    rw [← e]; exact h
local macro_rules | `(tactic| dl_keeps) => `(tactic| (with_reducible apply sp_sign_of_root; (focus pv_meta); (focus pv_meta); (focus pv_meta); (focus pv_meta)))
end
local macro_rules | `(tactic| dl_keeps) => `(tactic| (with_reducible apply sp_plain))
local macro_rules | `(tactic| dl_keeps) => `(tactic| (with_reducible apply sp_sign_of_root; (focus pv_meta); (focus pv_meta); (focus pv_meta); (focus pv_meta)))

section
variable {k l m ka kb kc kd ke kf : Nat} {a b c d e f p q : Rat} {Q : D → Prop}
theorem sp_sum2 (hp : bz k p) (hq : bz l q) (hk : k + l < 7900) (h : Q (dr (p + q))) : F_sum_of [.list [dr p, dr q]] Q := by
  unfold F_sum_of
  placed_of1
  rw [cN]
  placed_of1
  rw [Rat.zero_add]
  exact h
theorem sp_sum3 (hp : bz k p) (hq : bz l q) (hr : bz m a) (hk : k + l + m < 7900) (h : Q (dr (p + q + a))) : F_sum_of [.list [dr p, dr q, dr a]] Q := by
  unfold F_sum_of
  placed_of1
  rw [cN]
  placed_of1
  rw [Rat.zero_add]
  exact h
theorem sp_sum0 (h : Q (dr 0)) : F_sum_of [.list []] Q := by
  unfold F_sum_of
  placed_of1
  rw [cN]
  exact h
theorem sg2_0 (h : d = 0 ∨ e = 0) : sg2 a b c d e = sg1 a b c := by unfold sg2; rw [if_pos h]
theorem sg2_1 (h : ¬ (d = 0 ∨ e = 0)) : sg2 a b c d e = if sg1 a b c = 0 ∨ sg1 a b c = sgn d then sgn d else sg1 a b c * sg1 (a * a + b * b * c - d * d * e) (2 * (a * b)) c := by unfold sg2; rw [if_neg h]
theorem sm_sg1 : sm 2 (sg1 a b c) := by
  unfold sg1 sgn
  have h1 : sm 2 a.num.sign := sm_mono (sm_sgn _) (by decide)
  have h2 : sm 2 b.num.sign := sm_mono (sm_sgn _) (by decide)
  have h3 : sm 2 (a.num.sign * (a * a - b * b * c).num.sign) := sm_mul (sm_sgn _) (sm_sgn _)
  have h4 : sm 2 0 := by unfold sm; decide
  by_cases z : c = 0
  · simp only [z, if_true, or_true]
    exact h1
  simp only [z, if_false]
  split
  · exact h1
  split
  all_goals first | exact h1 | exact h2 | exact h3 | exact h4
theorem sp_sign_of_two (ha : bz ka a) (hb : bz kb b) (hc : bz kc c) (hd : bz kd d) (he : bz ke e) (hk : 6 * ka + 6 * kb + 3 * kc + 4 * kd + 2 * ke < 7800) (h : Q (.int (sg2 a b c d e))) : F_sign_of_two [dr a, dr b, dr c, dr d, dr e] Q := by
  unfold F_sign_of_two
  placed_of1
  rw [cN, eqv_dr]
  by_cases hd0 : d = 0
  · rw [decide_eq_true hd0]
    placed_of1
    rw [sg2_0 (.inl hd0)] at h; exact h
  rw [decide_eq_false hd0]
  placed_of1
  rw [eqv_dr]
  by_cases he0 : e = 0
  · rw [decide_eq_true he0]
    placed_of1
    rw [sg2_0 (.inr he0)] at h; exact h
  rw [sg2_1 (by simp [hd0, he0])] at h
  rw [decide_eq_false he0]
  placed_of1
  rw [eqv_int]
  rw [show d.num.sign = sgn d from rfl]
  by_cases h1 : sg1 a b c = 0
  · rw [decide_eq_true h1]
    placed_of1
    rw [if_pos (.inl h1)] at h; exact h
  rw [decide_eq_false h1]
  placed_of1
  rw [eqv_int]
  by_cases h2 : sg1 a b c = sgn d
  · rw [decide_eq_true h2]
    placed_of1
    rw [if_pos (.inr h2)] at h; exact h
  rw [decide_eq_false h2]
  rw [if_neg (by simp [h1, h2])] at h
  placed_of1
  refine sp_sum2 (by dl_puts) (by dl_puts) (by omega) ?_
  placed_of1
  rw [lit21]
  placed_of1
  · exact cmul (sm_sg1 (a := a) (b := b) (c := c)) (sm_sg1) (by decide)
  exact h
local macro_rules | `(tactic| dl_keeps) => `(tactic| (with_reducible apply sp_sign_of_two; (focus pv_meta); (focus pv_meta); (focus pv_meta); (focus pv_meta); (focus pv_meta); (focus pv_meta)))
end
local macro_rules | `(tactic| dl_keeps) => `(tactic| (with_reducible apply sp_sign_of_two; (focus pv_meta); (focus pv_meta); (focus pv_meta); (focus pv_meta); (focus pv_meta); (focus pv_meta)))

section
variable {k l m ka kb kc kd ke kf : Nat} {a b c d e f p q : Rat} {Q : D → Prop}
def cmp (a b c d e f : Rat) : Int := sg2 (a - d) b c (-e) f
theorem sp_compare (ha : bz ka a) (hb : bz kb b) (hc : bz kc c) (hd : bz kd d) (he : bz ke e) (hf : bz kf f) (hk : 6 * ka + 6 * kd + 6 * kb + 3 * kc + 4 * ke + 2 * kf < 7700) (h : Q (.int (cmp a b c d e f))) : F_compare [rt a b c, rt d e f] Q := by
  unfold F_compare
  placed_of1
  exact h
local macro_rules | `(tactic| dl_keeps) => `(tactic| (with_reducible apply sp_compare; (focus pv_meta); (focus pv_meta); (focus pv_meta); (focus pv_meta); (focus pv_meta); (focus pv_meta); (focus pv_meta)))
theorem sg1_le (hc : 0 ≤ c) (h : (if c = 0 then 0 else sgn b) = 0 ∨ sgn a = (if c = 0 then 0 else sgn b)) : sg1 a b c = sgn a := by
  rw [sg1_def _ _ rfl rfl, if_pos (by rcases h with h | h; exact .inr h; exact .inl h)]
theorem sp__law_sign (h0 : 0 ≤ c) (ha : bz ka a) (hb : bz kb b) (hc : bz kc c) (hk : 2 * ka + 2 * kb + kc < 7900) (h : Q (.int (sg1 a b c))) : F__law_sign [rt a b c] Q := by
  unfold F__law_sign
  placed_of1
  rw [show a.num.sign = sgn a from rfl]
  have hss : sm 1 (sgn a) := sm_sgn _
  by_cases hc0 : c = 0
  · have e := sg1_def (a := a) (b := b) (c := c) _ 0 rfl (by rw [if_pos hc0])
    rw [if_pos (.inr rfl)] at e
    rw [decide_eq_false (by rw [num_c h0]; exact fun z => z hc0)]
    placed_of1
    rw [eqv_int]
    by_cases h1 : sgn a = 0
    · rw [decide_eq_true h1]
      placed_of1
      rw [← e]; exact h
    · rw [decide_eq_false h1]
      placed_of1
      rw [← e]; exact h
  have e := sg1_def (a := a) (b := b) (c := c) _ _ rfl (by rw [if_neg hc0])
  rw [decide_eq_true (by rw [num_c h0]; exact hc0)]
  placed_of1
  rw [show b.num.sign = sgn b from rfl]
  generalize sgn b = t at *
  generalize sgn a = s at *
  rw [eqv_int]
  by_cases h1 : s = t
  · rw [decide_eq_true h1]
    placed_of1
    rw [if_pos (.inl h1)] at e
    rw [← e]; exact h
  rw [decide_eq_false h1]
  placed_of1
  rw [eqv_int]
  by_cases h2 : t = 0
  · rw [decide_eq_true h2]
    placed_of1
    rw [if_pos (.inr h2)] at e
    rw [← e]; exact h
  rw [decide_eq_false h2]
  rw [if_neg (by omega)] at e
  placed_of1
  rw [eqv_int]
  by_cases h3 : s = 0
  · rw [decide_eq_true h3]
    placed_of1
    rw [if_pos h3] at e
    rw [← e]; exact h
  rw [decide_eq_false h3]
  rw [if_neg h3] at e
  placed_of1
  · exact cmul hss (sm_sgn _) (by decide)
  rw [e] at h; exact h
local macro_rules | `(tactic| dl_keeps) => `(tactic| (with_reducible apply sp__law_sign; (focus pv_meta); (focus pv_meta); (focus pv_meta); (focus pv_meta); (focus pv_meta)))
theorem sp__law_compare (h0 : 0 ≤ c) (h1 : 0 ≤ f) (ha : bz ka a) (hb : bz kb b) (hc : bz kc c) (hd : bz kd d) (he : bz ke e) (hf : bz kf f) (hk : 6 * ka + 6 * kd + 6 * kb + 3 * kc + 4 * ke + 2 * kf < 7700) (h : Q (.int (cmp a b c d e f))) : F__law_compare [rt a b c, rt d e f] Q := by
  unfold F__law_compare
  placed_of1
  unfold cmp at h
  by_cases hf0 : f = 0
  · rw [decide_eq_false (by rw [num_c h1]; exact fun z => z hf0)]
    placed_of1
    rw [sg2_0 (.inr hf0)] at h; exact h
  rw [decide_eq_true (by rw [num_c h1]; exact hf0)]
  placed_of1
  rw [show e.num.sign = sgn e from rfl, Int.zero_sub, ← sgn_neg', eqv_int]
  by_cases h2 : sgn (-e) = 0
  · rw [decide_eq_true h2]
    placed_of1
    rw [sg2_0 (.inl (Rat.num_eq_zero.mp (Int.sign_eq_zero_iff_zero.mp h2)))] at h; exact h
  rw [sg2_1 (by rintro (z | z); exact h2 (by rw [z]; rfl); exact hf0 z)] at h
  rw [decide_eq_false h2]
  placed_of1
  rw [eqv_int]
  by_cases h3 : sg1 (a - d) b c = sgn (-e)
  · rw [decide_eq_true h3]
    placed_of1
    rw [if_pos (.inr h3), ← h3] at h; exact h
  rw [decide_eq_false h3]
  placed_of1
  rw [eqv_int]
  by_cases h4 : sg1 (a - d) b c = 0
  · rw [decide_eq_true h4]
    placed_of1
    rw [if_pos (.inl h4)] at h; exact h
  rw [decide_eq_false h4]
  rw [if_neg (by simp [h3, h4])] at h
  placed_of1
  rw [lit21]
  placed_of1
  · exact cmul (sm_sg1 (a := a - d) (b := b) (c := c)) (sm_sg1) (by decide)
  rw [show -e * -e = e * e by grind] at h
  exact h
local macro_rules | `(tactic| dl_keeps) => `(tactic| (with_reducible apply sp__law_compare; (focus pv_meta); (focus pv_meta); (focus pv_meta); (focus pv_meta); (focus pv_meta); (focus pv_meta); (focus pv_meta); (focus pv_meta); (focus pv_meta)))
end
local macro_rules | `(tactic| dl_keeps) => `(tactic| (with_reducible apply sp_compare; (focus pv_meta); (focus pv_meta); (focus pv_meta); (focus pv_meta); (focus pv_meta); (focus pv_meta); (focus pv_meta)))
local macro_rules | `(tactic| dl_keeps) => `(tactic| (with_reducible apply sp__law_sign; (focus pv_meta); (focus pv_meta); (focus pv_meta); (focus pv_meta); (focus pv_meta)))
local macro_rules | `(tactic| dl_keeps) => `(tactic| (with_reducible apply sp__law_compare; (focus pv_meta); (focus pv_meta); (focus pv_meta); (focus pv_meta); (focus pv_meta); (focus pv_meta); (focus pv_meta); (focus pv_meta); (focus pv_meta)))

section
variable {k l m ka kb kc kd ke kf : Nat} {a b c d e f p q C : Rat} {Q : D → Prop}
/-! ### whole roots -/
theorem wroot_loop : ∀ (n : Nat) (lo hi num : Int) (s : Sl) (P : Po) (k : Nat), 0 ≤ lo → lo < hi → (hi - lo).toNat ≤ n → lo * lo ≤ num → num < hi * hi → sm k hi → k < 4000 → 
    (∀ lo' s', 0 ≤ lo' → lo' * lo' ≤ num → num < (lo' + 1) * (lo' + 1) → sm k lo' → P.nx [.va (.int num), .va (.int lo'), .va (.int (lo' + 1)), s']) →
    whileW (eT (eOp fGt (eOp fSub (eVar 2) (eVar 1)) (eC (.int 1)))) (sSeq (sAsg (eOp fDiv (eOp fAdd (eVar 1) (eVar 2)) (eC (.int 2))) (mgName 3)) (sIf (eT (eOp fLe (eOp fMul (eVar 3) (eVar 3)) (eVar 0))) (sAsg (eVar 3) (mgName 1)) (sAsg (eVar 3) (mgName 2)))) n [.va (.int num), .va (.int lo), .va (.int hi), s] P
  | 0, lo, hi, num, s, P, k, h0, h1, h2, _, _, _, _, _ => by omega
  | n + 1, lo, hi, num, s, P, k, h0, h1, h2, h3, h4, hs, hk, hP => by
    unfold whileW
    obtain ⟨nx, rt, bk, ct⟩ := P
    have hl : sm k lo := by unfold sm at *; omega
    placed_of0
    by_cases hd : 1 < hi - lo
    · rw [decide_eq_true hd]
      placed_of0
      · exact cdv sm_2 (by decide) (by decide)
      have hm : sm k ((lo + hi).fdiv 2) := by
        unfold sm at *
        rw [Int.fdiv_eq_ediv_of_nonneg _ (by decide)]
        omega
      have e : (lo + hi).fdiv 2 = (lo + hi) / 2 := Int.fdiv_eq_ediv_of_nonneg _ (by decide)
      rw [e] at hm ⊢
      placed_of0
      · exact cmul hm hm (by omega)
      placed_of0
      by_cases hc : (lo + hi) / 2 * ((lo + hi) / 2) ≤ num
      · rw [decide_eq_true hc]
        placed_of0
        exact wroot_loop n _ hi num _ _ k (by omega) (by omega) (by omega) hc h4 hs hk hP
      · rw [decide_eq_false hc]
        placed_of0
        exact wroot_loop n lo _ num _ _ k h0 (by omega) (by omega) h3 (by omega) hm hk hP
    · rw [decide_eq_false hd]
      placed_of0
      have e : hi = lo + 1 := by omega
      subst e
      exact hP lo s h0 h3 h4 hl
theorem sp_whole_root {n : Int} (hn : 0 ≤ n) (hs : sm k n) (hk : k < 3900) (h : ∀ r : Int, 0 ≤ r → r * r ≤ n → n < (r + 1) * (r + 1) → Q (if r * r = n then .int r else .none)) : F_whole_root [.int n] Q := by
  unfold F_whole_root
  placed_of0
  have h1 : n + 1 ≤ (n + 1) * (n + 1) := by have := Int.mul_le_mul_of_nonneg_left (a := 1) (b := n + 1) (c := n + 1) (by omega) (by omega); omega
  refine ⟨(n + 1).toNat, wroot_loop _ 0 (n + 1) n _ _ (k + 1 + 1) (by omega) (by omega) (by omega) (by omega) (by omega) (sm_add (sm_mono hs (by omega)) (by unfold sm; have := Nat.one_le_two_pow (n := k); rw [Nat.pow_succ]; simp; omega)) (by omega) fun r s' r0 r1 r2 r3 => ?_⟩
  placed_of0
  · exact cmul r3 r3 (by omega)
  placed_of0
  have := h r r0 r1 r2
  rw [eqv_int]
  by_cases e : r * r = n
  · rw [decide_eq_true e]
    placed_of0
    rw [if_pos e] at this; exact this
  · rw [decide_eq_false e]
    placed_of0
    rw [if_neg e] at this; exact this
local macro_rules | `(tactic| dl_keeps) => `(tactic| (with_reducible apply sp_whole_root; (focus pv_meta); (focus pv_meta); (focus pv_meta)))
/-- above nothing, and no square of a fraction -/
def Nsq (c : Rat) : Prop := 0 < c ∧ ∀ r : Rat, r * r ≠ c
/-- the third part -/
def trd (b C : Rat) : Rat := if b = 0 then 0 else C
abbrev nrm (a b C : Rat) : D := rt a b (trd b C)
theorem nrm_0 (a C : Rat) : nrm a 0 C = rt a 0 0 := rfl
theorem nrm_1 (h : b ≠ 0) : nrm a b C = rt a b C := by unfold nrm trd; rw [if_neg h]
theorem rat_eq (c : Rat) : (c.num : Rat) = c * ((c.den : Nat) : Rat) := by
  have h5 := Rat.num_divInt_den c
  rw [Rat.divInt_eq_div] at h5
  have h6 : ((c.den : Int) : Rat) ≠ 0 := fun z => c.den_nz (by rw [Rat.intCast_eq_zero_iff] at z; omega)
  have h7 := Rat.div_mul_cancel (a := (c.num : Rat)) h6
  rw [h5] at h7
  exact h7.symm
theorem nsq_no {u l : Int} (hc : Nsq c) (h1 : u * u = c.num) (h2 : l * l = (c.den : Nat)) : False := by
  refine hc.2 ((u : Rat) / (l : Rat)) ?_
  have hl : (l : Rat) ≠ 0 := fun z => by
    rw [Rat.intCast_eq_zero_iff] at z
    rw [z] at h2
    have := c.den_nz
    omega
  have e1 : (u : Rat) * (u : Rat) = c * ((l : Rat) * (l : Rat)) := by
    rw [← Rat.intCast_mul, ← Rat.intCast_mul, h1, h2, rat_eq c]
    rfl
  have e2 : (u : Rat) / (l : Rat) * (l : Rat) = u := Rat.div_mul_cancel hl
  generalize (u : Rat) / (l : Rat) = x at *
  generalize (u : Rat) = y at *
  generalize (l : Rat) = z at *
  have e3 : (x * x - c) * (z * z) = 0 := by rw [← e2] at e1; grind
  rcases Rat.mul_eq_zero.mp e3 with h | h
  · grind
  · rcases Rat.mul_eq_zero.mp h with h | h <;> exact (hl h).elim
theorem sp_tidy0 (hb : bz kb b) (h : Q (rt a 0 0)) (hc : b = 0 ∨ c = 0) : F_tidy [dr a, dr b, dr c] Q := by
  unfold F_tidy
  placed_of1
  rw [cN, eqv_dr]
  by_cases b0 : b = 0
  · rw [decide_eq_true b0]
    placed_of1
    exact h
  · rw [decide_eq_false b0]
    placed_of1
    rw [eqv_dr, decide_eq_true (hc.resolve_left b0)]
    placed_of1
    exact h
theorem sp_tidy (hc : Nsq c) (hs : bz kc c) (hk : kc < 3900) (h : Q (nrm a b c)) : F_tidy [dr a, dr b, dr c] Q := by
  by_cases b0 : b = 0
  · rw [b0, nrm_0] at h
    exact sp_tidy0 (kb := 1) (by rw [b0]; exact bz_0) h (.inl b0)
  rw [nrm_1 b0] at h
  have c0 : c ≠ 0 := by have := hc.1; grind
  unfold F_tidy
  placed_of1
  rw [cN, eqv_dr, decide_eq_false b0]
  placed_of1
  rw [eqv_dr, decide_eq_false c0]
  placed_of1
  have hn : 0 ≤ c.num := Rat.num_nonneg.mpr (by have := hc.1; grind)
  refine sp_whole_root hn hs.1 hk fun u u0 u1 u2 => ?_
  placed_of1
  refine sp_whole_root (by omega) (sm_den hs) hk fun v v0 v1 v2 => ?_
  placed_of1
  by_cases e1 : u * u = c.num
  · rw [if_pos e1]
    placed_of1
    by_cases e2 : v * v = ((c.den : Nat) : Int)
    · exact (nsq_no hc e1 e2).elim
    · rw [if_neg e2]
      placed_of1
      exact h
  · rw [if_neg e1]
    placed_of1
    exact h
local macro_rules | `(tactic| dl_keeps) => `(tactic| (with_reducible apply sp_tidy; (focus pv_meta); (focus pv_meta); (focus pv_meta)))
end
local macro_rules | `(tactic| dl_keeps) => `(tactic| (with_reducible apply sp_whole_root; (focus pv_meta); (focus pv_meta); (focus pv_meta)))
local macro_rules | `(tactic| dl_keeps) => `(tactic| (with_reducible apply sp_tidy; (focus pv_meta); (focus pv_meta); (focus pv_meta)))

section
variable {k l m ka kb kc kd ke kf : Nat} {a b c d e f p q C : Rat} {Q : D → Prop}
theorem nrm_eq (a b C : Rat) : nrm a b C = rt a b (trd b C) := rfl
theorem bz_trd (h : bz m C) (hm : 1 ≤ m) : bz m (trd b C) := by
  unfold trd
  split
  · exact bz_mono bz_0 hm
  · exact h
theorem bz_trd1 (h : bz m C) : bz (m + 1) (trd b C) := bz_trd (bz_mono h (by omega)) (by omega)
local macro_rules | `(tactic| dl_puts) => `(tactic| ((with_reducible apply bz_trd1) <;> dl_puts))
/-- tidy where the third part is the common one, or nothing -/
theorem tidy_trd (hc : Nsq C) (hs : bz m C) (hk : m < 3900) (hb : bz kb b) (y : Rat) (h0 : trd y C = 0 → b = 0) (h : Q (nrm a b C)) : F_tidy [dr a, dr b, dr (trd y C)] Q := by
  by_cases hy : trd y C = 0
  · have b0 := h0 hy
    rw [b0, nrm_0] at h
    rw [b0]
    exact sp_tidy0 (kb := 1) bz_0 h (.inl rfl)
  · have : trd y C = C := by unfold trd at *; split <;> grind
    rw [this]
    exact sp_tidy hc hs hk h
theorem trd_eq0 (hc : Nsq C) (h : trd b C = 0) : b = 0 := by
  unfold trd at h
  have := hc.1
  split at h <;> grind
/-- the third part that two numbers choose -/
theorem pick_trd (hc : Nsq C) {X : (D → Prop) → Prop} : True := trivial
def mx (b f : Rat) : Rat := if b = 0 then f else b
theorem mx_0 (h : mx b f = 0) : b = 0 ∧ f = 0 := by
  unfold mx at h
  split at h <;> grind
theorem trd_mx (b f C : Rat) : trd (mx b f) C = if b = 0 then trd f C else trd b C := by
  unfold mx
  split <;> rfl
theorem sp_added_root (hc : Nsq C) (hs : bz m C) (ha : bz k a) (hb : bz k b) (hd : bz k d) (hf : bz k f) (hm : m < 3000) (hk : k < 3000) (h : Q (nrm (a + d) (b + f) C)) : F_added_root [nrm a b C, nrm d f C] Q := by
  rw [nrm_eq a b, nrm_eq d f]
  unfold F_added_root
  placed_of1
  rw [cN, eqv_dr]
  have key : ∀ x, trd (mx b f) C = x → F_tidy [dr (a + d), dr (b + f), dr x] Q := fun x e => by
    rw [← e]
    refine tidy_trd hc hs (by omega) (kb := k + k + 1) (by dl_puts) _ (fun z => ?_) h
    obtain ⟨h1, h2⟩ := mx_0 (trd_eq0 hc z)
    rw [h1, h2]; grind
  rw [trd_mx] at key
  by_cases hb0 : b = 0
  · rw [decide_eq_true hb0]
    rw [if_pos hb0] at key
    placed_of1
    exact key _ rfl
  · rw [decide_eq_false hb0]
    rw [if_neg hb0] at key
    placed_of1
    exact key _ rfl
local macro_rules | `(tactic| dl_keeps) => `(tactic| (with_reducible apply sp_added_root; (focus pv_meta); (focus pv_meta); (focus pv_meta); (focus pv_meta); (focus pv_meta); (focus pv_meta); (focus pv_meta); (focus pv_meta)))
theorem trd_neg (b C : Rat) : trd (-b) C = trd b C := by
  unfold trd
  by_cases h : b = 0
  · rw [if_pos h, if_pos (by rw [h]; rfl)]
  · rw [if_neg h, if_neg (by grind)]
theorem sp_turned_root (h : Q (nrm (-a) (-b) C)) : F_turned_root [nrm a b C] Q := by
  rw [nrm_eq, trd_neg] at h
  rw [nrm_eq]
  unfold F_turned_root
  placed_of1
  exact h
local macro_rules | `(tactic| dl_keeps) => `(tactic| (with_reducible apply sp_turned_root))
theorem sp_minus_root (hc : Nsq C) (hs : bz m C) (ha : bz k a) (hb : bz k b) (hd : bz k d) (hf : bz k f) (hm : m < 3000) (hk : k < 3000) (h : Q (nrm (a - d) (b - f) C)) : F_minus_root [nrm a b C, nrm d f C] Q := by
  unfold F_minus_root
  placed_of1
  rw [← Rat.sub_eq_add_neg, ← Rat.sub_eq_add_neg]
  exact h
local macro_rules | `(tactic| dl_keeps) => `(tactic| (with_reducible apply sp_minus_root; (focus pv_meta); (focus pv_meta); (focus pv_meta); (focus pv_meta); (focus pv_meta); (focus pv_meta); (focus pv_meta); (focus pv_meta)))
theorem sp_times_root (hc : Nsq C) (hs : bz m C) (ha : bz k a) (hb : bz k b) (hd : bz l d) (hf : bz l f) (hm : m < 1000) (hk : k + l < 1500) (h : Q (nrm (a * d + b * f * C) (a * f + b * d) C)) : F_times_root [nrm a b C, nrm d f C] Q := by
  rw [nrm_eq a b, nrm_eq d f]
  unfold F_times_root
  placed_of1
  rw [cN, eqv_dr]
  have key : ∀ x, trd (mx b f) C = x → F_tidy [dr (a * d + b * f * x), dr (a * f + b * d), dr x] Q := fun x e => by
    have e2 : a * d + b * f * x = a * d + b * f * C := by
      rw [← e]
      by_cases z : trd (mx b f) C = 0
      · obtain ⟨h1, h2⟩ := mx_0 (trd_eq0 hc z)
        rw [h1]; grind
      · have : trd (mx b f) C = C := by unfold trd at *; split <;> grind
        rw [this]
    rw [e2, ← e]
    refine tidy_trd hc hs (by omega) (kb := k + l + (k + l) + 1) (by dl_puts) _ (fun z => ?_) h
    obtain ⟨h1, h2⟩ := mx_0 (trd_eq0 hc z)
    rw [h1, h2]; grind
  rw [trd_mx] at key
  by_cases hb0 : b = 0
  · rw [decide_eq_true hb0]
    rw [if_pos hb0] at key
    placed_of1
    exact key _ rfl
  · rw [decide_eq_false hb0]
    rw [if_neg hb0] at key
    placed_of1
    exact key _ rfl
local macro_rules | `(tactic| dl_keeps) => `(tactic| (with_reducible apply sp_times_root; (focus pv_meta); (focus pv_meta); (focus pv_meta); (focus pv_meta); (focus pv_meta); (focus pv_meta); (focus pv_meta); (focus pv_meta)))
theorem sp_by_fraction (hc : Nsq C) (hs : bz m C) (ha : bz k a) (hb : bz k b) (hp : bz l p) (hm : m < 3000) (hk : k + l < 3000) (h : Q (nrm (a * p) (b * p) C)) : F_by_fraction [nrm a b C, dr p] Q := by
  rw [nrm_eq a b]
  unfold F_by_fraction
  placed_of1
  refine tidy_trd hc hs (by omega) (kb := k + l) (by dl_puts) _ (fun z => ?_) h
  rw [trd_eq0 hc z]; grind
local macro_rules | `(tactic| dl_keeps) => `(tactic| (with_reducible apply sp_by_fraction; (focus pv_meta); (focus pv_meta); (focus pv_meta); (focus pv_meta); (focus pv_meta); (focus pv_meta); (focus pv_meta)))
theorem low_ne (hc : Nsq C) (h : ¬ (d = 0 ∧ f = 0)) : d * d - f * f * C ≠ 0 := fun z => by
  by_cases hf : f = 0
  · rw [hf] at z
    have : d * d = 0 := by grind
    rcases Rat.mul_eq_zero.mp this with h1 | h1 <;> exact h ⟨h1, hf⟩
  · refine hc.2 (d / f) ?_
    have e2 : d / f * f = d := Rat.div_mul_cancel hf
    generalize d / f = x at *
    have e3 : (x * x - C) * (f * f) = 0 := by rw [← e2] at z; grind
    rcases Rat.mul_eq_zero.mp e3 with h1 | h1
    · grind
    · rcases Rat.mul_eq_zero.mp h1 with h1 | h1 <;> exact (hf h1).elim
theorem trd_mulsq (f C : Rat) : f * f * trd f C = f * f * C := by
  unfold trd
  by_cases h : f = 0
  · rw [h]; grind
  · rw [if_neg h]
theorem sp_over_root (hc : Nsq C) (hs : bz m C) (ha : bz k a) (hb : bz k b) (hd : bz k d) (hf : bz k f) (hm : m < 100) (hk : k < 100) (hz : ¬ (d = 0 ∧ f = 0))
    (h : Q (nrm (a * (d / (d * d - f * f * C)) + b * -(f / (d * d - f * f * C)) * C) (a * -(f / (d * d - f * f * C)) + b * (d / (d * d - f * f * C))) C)) : F_over_root [nrm a b C, nrm d f C] Q := by
  rw [nrm_eq d f]
  unfold F_over_root
  placed_of1
  rw [trd_mulsq]
  have hl := low_ne hc hz
  have hlb : bz (k + k + (k + k + m) + 1) (d * d - f * f * C) := by dl_puts
  generalize d * d - f * f * C = low at *
  refine sp_over hd hlb hl (by omega) ?_
  placed_of1
  have b1 := bz_over hd hlb hl
  have b2 := bz_over hf hlb hl
  refine tidy_trd hc hs (by omega) (kb := k + (k + k + (k + k + m) + 1)) (by dl_puts) _ (fun z => ?_) ?_
  · rw [trd_eq0 hc z, Rat.div_def]; grind
  placed_of1
  exact h
end
local macro_rules | `(tactic| dl_puts) => `(tactic| ((with_reducible apply bz_trd1) <;> dl_puts))
local macro_rules | `(tactic| dl_keeps) => `(tactic| (with_reducible apply sp_added_root; (focus pv_meta); (focus pv_meta); (focus pv_meta); (focus pv_meta); (focus pv_meta); (focus pv_meta); (focus pv_meta); (focus pv_meta)))
local macro_rules | `(tactic| dl_keeps) => `(tactic| (with_reducible apply sp_turned_root))
local macro_rules | `(tactic| dl_keeps) => `(tactic| (with_reducible apply sp_minus_root; (focus pv_meta); (focus pv_meta); (focus pv_meta); (focus pv_meta); (focus pv_meta); (focus pv_meta); (focus pv_meta); (focus pv_meta)))
local macro_rules | `(tactic| dl_keeps) => `(tactic| (with_reducible apply sp_times_root; (focus pv_meta); (focus pv_meta); (focus pv_meta); (focus pv_meta); (focus pv_meta); (focus pv_meta); (focus pv_meta); (focus pv_meta)))
local macro_rules | `(tactic| dl_keeps) => `(tactic| (with_reducible apply sp_by_fraction; (focus pv_meta); (focus pv_meta); (focus pv_meta); (focus pv_meta); (focus pv_meta); (focus pv_meta); (focus pv_meta)))

section
variable {k l m ka kb kc kd ke kf : Nat} {a b c d e f p q C X Y x y z : Rat} {Q : D → Prop}
/-! ### judges -/
theorem sp_is_number (i : Int) (h : Q (.bool true)) : F_is_number [.int i] Q := by
  unfold F_is_number
  placed_of1
  exact h
local macro_rules | `(tactic| dl_keeps) => `(tactic| (with_reducible apply sp_is_number))
theorem sp_common {i j : Int} (h : Q (.int (Int.gcd i j : Nat))) : F_common [.int i, .int j] Q := common_ok h
local macro_rules | `(tactic| dl_keeps) => `(tactic| (with_reducible apply sp_common))
theorem gcd_dr (p : Rat) : Int.gcd p.num (p.den : Nat) = 1 := by
  have := p.reduced
  unfold Int.gcd
  rw [Int.natAbs_natCast]
  exact this
theorem sp_is_fraction (h : Q (.bool true)) : F_is_fraction [dr p] Q := by
  unfold F_is_fraction
  placed_of1
  rw [decide_eq_true (by have := p.den_pos; omega)]
  placed_of1
  rw [gcd_dr]
  placed_of1
  exact h
local macro_rules | `(tactic| dl_keeps) => `(tactic| (with_reducible apply sp_is_fraction))
theorem sp_is_root (hz : 0 ≤ z) (hyz : y = 0 ↔ z = 0) (h : Q (.bool true)) : F_is_root [rt x y z] Q := by
  unfold F_is_root
  placed_of1
  rw [decide_eq_true (Rat.num_nonneg.mpr hz)]
  placed_of1
  rw [cN, eqv_dr]
  placed_of1
  rw [eqv_dr]
  have e : PyData.eqv (.bool !decide (y = 0)) (.bool !decide (z = 0)) = true := by
    show ((!decide (y = 0)) == (!decide (z = 0))) = true
    by_cases h1 : y = 0
    · rw [decide_eq_true h1, decide_eq_true (hyz.mp h1)]; rfl
    · rw [decide_eq_false h1, decide_eq_false fun w => h1 (hyz.mpr w)]; rfl
  rw [e]
  exact h
local macro_rules | `(tactic| dl_keeps) => `(tactic| (with_reducible apply sp_is_root; (focus pv_meta); (focus pv_meta)))
theorem is_root_nrm (hc : Nsq C) (h : Q (.bool true)) : F_is_root [nrm a b C] Q := by
  rw [nrm_eq]
  refine sp_is_root ?_ ⟨fun z => ?_, trd_eq0 hc⟩ h
  · have := hc.1
    unfold trd
    split <;> grind
  · unfold trd; rw [if_pos z]
/-! ### what compare tells -/
theorem cmp_val (hc : 0 ≤ c) (hf : 0 ≤ f) : cmp a b c d e f = sr (val a b c - val d e f) := by
  unfold cmp
  rw [sg2_val hc hf]
  congr 1
  unfold val
  rw [Rl.q_sub, Rl.q_neg]
  grind
theorem val_trd (a b C : Rat) : val a b (trd b C) = val a b C := by
  unfold trd val
  by_cases h : b = 0
  · rw [h, Rl.q_zero]; grind
  · rw [if_neg h]
theorem trd_nonneg (h : 0 ≤ C) : 0 ≤ trd b C := by unfold trd; split <;> grind
theorem cmp_same (hC : 0 ≤ C) (hz : 0 ≤ z) (h : val X Y C = val x y z) : cmp X Y (trd Y C) x y z = 0 := by
  rw [cmp_val (trd_nonneg hC) hz, val_trd, h, show val x y z - val x y z = 0 by grind, sr_zero]
theorem law_is_ok (hc : Nsq C) (hX : bz ka X) (hY : bz ka Y) (hCs : bz kc C) (hx : bz ka x) (hy : bz ka y) (hz : bz kc z) (h0 : 0 ≤ z) (hk : 26 * ka + 5 * kc < 7600) (e : val X Y C = val x y z) (h : Q (.bool true)) : F__law_is [nrm X Y C, dr x, dr y, dr z] Q := by
  unfold F__law_is
  placed_of0
  refine is_root_nrm hc ?_
  placed_of0
  rw [nrm_eq]
  refine sp__law_compare (trd_nonneg (by have := hc.1; grind)) h0 hX hY (bz_trd1 hCs) hx hy hz (by omega) ?_
  rw [cmp_same (by have := hc.1; grind) h0 e]
  placed_of0
  exact h
end
local macro_rules | `(tactic| dl_keeps) => `(tactic| (with_reducible apply sp_is_number))
local macro_rules | `(tactic| dl_keeps) => `(tactic| (with_reducible apply sp_common))
local macro_rules | `(tactic| dl_keeps) => `(tactic| (with_reducible apply sp_is_fraction))
local macro_rules | `(tactic| dl_keeps) => `(tactic| (with_reducible apply sp_is_root; (focus pv_meta); (focus pv_meta)))

section
variable {k l m ka kb kc kd ke kf : Nat} {a b c d e f p q C X Y x y z : Rat} {Q : D → Prop}
abbrev wD : D := .dict []
theorem next_ok {n : Int} (hn : 0 < n) (h : ∀ i, 0 ≤ i → i < n → Q (.int i)) : F__law_next [wD, .int n] Q := ⟨hn, h⟩
theorem sm_of {i : Int} (h1 : -(2 ^ k : Nat) < i) (h2 : i < (2 ^ k : Nat)) : sm k i := by unfold sm; omega
/-- a drawn part -/
def Pt (p : Rat) : Prop := ∃ u l : Int, -500000000 < u ∧ u < 500000000 ∧ 1 ≤ l ∧ l ≤ 7 ∧ p = Rat.divInt u l
theorem Pt.bz (h : Pt p) : bz 29 p := by
  obtain ⟨u, l, h1, h2, h3, h4, rfl⟩ := h
  exact bz_div (by omega) (sm_of (by simp; omega) (by simp; omega)) (sm_of (by simp; omega) (by simp; omega))
theorem part_ok (h : ∀ p, Pt p → Q (dr p)) : F__law_part [wD] Q := by
  unfold F__law_part
  placed_of1
  refine next_ok (by decide) fun i i0 i1 => ?_
  have fin : ∀ u : Int, -500000000 < u → u < 500000000 → sRet
      (eCallN 2 F__law_frac
        (aCons (eVar 1) (aCons (eOp fAdd (eC (.int 1)) (eCallN 2 F__law_next (aCons (eVar 0) (aCons (eC (.int 7)) aNil)))) aNil)))
      [.va wD, .va (.int u)] { nx := fun _ => Q .none, rt := Q, bk := fun _ => False, ct := fun _ => False } := by
    intro u u0 u1
    placed_of1
    refine next_ok (by decide) fun j j0 j1 => ?_
    placed_of1
    refine sp__law_frac (k := 29) (by omega) (sm_of (by simp; omega) (by simp; omega)) (sm_of (by simp; omega) (by simp; omega)) (by decide) ?_
    exact h _ ⟨u, 1 + j, u0, u1, by omega, by omega, rfl⟩
  placed_of1
  by_cases hi : 0 < i
  · rw [decide_eq_true hi]
    placed_of0
    refine next_ok (by decide) fun j j0 j1 => ?_
    tb_rel
    tb_rel
    tb_rel
    tb_rel
    exact fin _ (by omega) (by omega)
  · rw [decide_eq_false hi]
    placed_of0
    refine next_ok (by decide) fun j j0 j1 => ?_
    placed_of0
    · exact cmul (k := 10) (l := 10) (sm_of (by simp; omega) (by simp; omega)) (sm_of (by decide) (by decide)) (by decide)
    placed_of0
    · exact cmul (k := 20) (l := 10) (sm_of (by simp; omega) (by simp; omega)) (sm_of (by decide) (by decide)) (by decide)
    placed_of0
    refine next_ok (by decide) fun j2 j20 j21 => ?_
    tb_rel
    tb_rel
    exact fin _ (by omega) (by omega)
theorem atI_mem {ds : List D} {i : Int} (h0 : 0 ≤ i) (h1 : i < (ds.length : Nat)) : ∃ d, d ∈ ds ∧ atI ds i = some d := by
  have e : ixN ds.length i = some i.toNat := by
    unfold ixN
    rw [if_pos (by omega), if_pos (by omega)]
  refine ⟨ds[i.toNat]'(by omega), List.getElem_mem _, ?_⟩
  unfold atI
  rw [e]
  show ds[i.toNat]? = _
  exact List.getElem?_eq_getElem _
theorem pick_ok {ds : List D} (h0 : 0 < ds.length) (h : ∀ d ∈ ds, Q d) : F__law_pick [wD, .list ds] Q := by
  unfold F__law_pick
  placed_of0
  refine next_ok (by omega) fun i i0 i1 => ?_
  obtain ⟨d, hd, e⟩ := atI_mem i0 i1
  exact w_ixL e (h d hd)
/-- a third part as the law picks it, and what stands for it in the numbers -/
structure Cok (c C : Rat) : Prop where
  c0 : 0 ≤ c
  bc : bz 4 c
  n : Nsq C
  bC : bz 4 C
  kind : C = c ∨ c = 4 ∨ c = 0
theorem number_ok (hc : Cok c C) (h : ∀ p p' a b, Pt p → Pt p' → bz 61 a → bz 29 b → (a = p ∨ a = p + 2 * p') → (b = p' ∨ b = 0) → Q (nrm a b C)) : F__law_number [wD, dr c] Q := by
  unfold F__law_number
  placed_of0
  refine part_ok fun a ha => ?_
  placed_of0
  refine part_ok fun b hb => ?_
  placed_of0
  have hzero : ∀ a', nrm a' 0 C = rt a' 0 0 := fun a' => nrm_0 a' C
  rcases hc.kind with e | e | e
  · rw [← e]
    exact sp_tidy hc.n hc.bC (by decide) (h a b a b ha hb (bz_mono ha.bz (by decide)) hb.bz (.inl rfl) (.inl rfl))
  · subst e
    by_cases b0 : b = 0
    · refine sp_tidy0 hb.bz ?_ (.inl b0)
      rw [← hzero]
      exact h a b a 0 ha hb (bz_mono ha.bz (by decide)) (bz_mono bz_0 (by decide)) (.inl rfl) (.inr rfl)
    · unfold F_tidy
      placed_of1
      rw [cN, eqv_dr, decide_eq_false b0]
      placed_of1
      refine sp_whole_root (k := 4) (by decide) (sm_of (by decide) (by decide)) (by decide) fun u u0 u1 u2 => ?_
      have u1' : u * u ≤ 4 := u1
      have u2' : 4 < (u + 1) * (u + 1) := u2
      have hu : u = 2 := by
        have h1 : u < 3 := by
          refine Classical.byContradiction fun z => ?_
          have := Int.mul_le_mul (a := 3) (b := 3) (c := u) (d := u) (by omega) (by omega) (by omega) (by omega)
          omega
        have h2 : 1 < u := by
          refine Classical.byContradiction fun z => ?_
          have := Int.mul_le_mul (a := u + 1) (b := u + 1) (c := 2) (d := 2) (by omega) (by omega) (by omega) (by omega)
          omega
        omega
      subst hu
      rw [if_pos (by decide)]
      placed_of1
      refine sp_whole_root (k := 4) (by decide) (sm_of (by decide) (by decide)) (by decide) fun v v0 v1 v2 => ?_
      have v1' : v * v ≤ 1 := v1
      have v2' : 1 < (v + 1) * (v + 1) := v2
      have hv : v = 1 := by
        have h1 : v < 2 := by
          refine Classical.byContradiction fun z => ?_
          have := Int.mul_le_mul (a := 2) (b := 2) (c := v) (d := v) (by omega) (by omega) (by omega) (by omega)
          omega
        have h2 : 0 < v := by
          refine Classical.byContradiction fun z => ?_
          have := Int.mul_le_mul (a := v + 1) (b := v + 1) (c := 1) (d := 1) (by omega) (by omega) (by omega) (by omega)
          omega
        omega
      subst hv
      rw [if_pos (by decide)]
      have ha' := ha.bz
      have hb' := hb.bz
      placed_of1
      rw [lit21]
      placed_of1
      rw [← hzero, show b * 2 = 2 * b by grind]
      exact h a b (a + 2 * b) 0 ha hb (bz_mono (by dl_puts) (by omega)) (bz_mono bz_0 (by decide)) (.inr rfl) (.inr rfl)
  · subst e
    refine sp_tidy0 hb.bz ?_ (.inr rfl)
    rw [← hzero]
    exact h a b a 0 ha hb (bz_mono ha.bz (by decide)) (bz_mono bz_0 (by decide)) (.inl rfl) (.inr rfl)
end

section
variable {k l m ka kb kc kd ke kf : Nat} {a b c d e f p q C X Y x y z : Rat} {Q : D → Prop}
theorem nsq_of {k : Nat} (h0 : 0 < c) (h1 : k * k < c.num.natAbs) (h2 : c.num.natAbs < (k + 1) * (k + 1)) : Nsq c := by
  refine ⟨h0, fun r hr => ?_⟩
  have e : (r * r).num = r.num * r.num := by
    have := dr_sq r
    simp only [dr, PyData.tuple.injEq, List.cons.injEq, PyData.int.injEq] at this
    exact this.1.symm
  rw [hr] at e
  rw [e, Int.natAbs_mul] at h1 h2
  generalize r.num.natAbs = p at *
  rcases Nat.lt_or_ge k p with h | h
  · have := Nat.mul_le_mul (show k + 1 ≤ p from h) (show k + 1 ≤ p from h)
    omega
  · have := Nat.mul_le_mul h h
    omega
theorem nsq_2 : Nsq 2 := nsq_of (k := 1) (by decide) (by decide) (by decide)
abbrev dv (i j : Int) : Rat := Rat.divInt i j
theorem cok_self (h : Nsq c) (hb : bz 4 c) : Cok c c := ⟨by have := h.1; grind, hb, h, hb, .inl rfl⟩
theorem cok_4 : Cok 4 2 := ⟨by decide, ⟨by unfold sm; decide, by decide⟩, nsq_2, bz_mono bz_2 (by decide), .inr (.inl rfl)⟩
theorem cok_0 : Cok 0 2 := ⟨by decide, bz_mono bz_0 (by decide), nsq_2, bz_mono bz_2 (by decide), .inr (.inr rfl)⟩
theorem cok_2 : Cok 2 2 := cok_self nsq_2 (bz_mono bz_2 (by decide))
theorem cok_3 : Cok 3 3 := cok_self (nsq_of (k := 1) (by decide) (by decide) (by decide)) ⟨by unfold sm; decide, by decide⟩
theorem cok_10 : Cok 10 10 := cok_self (nsq_of (k := 3) (by decide) (by decide) (by decide)) ⟨by unfold sm; decide, by decide⟩
theorem cok_11 : Cok 11 11 := cok_self (nsq_of (k := 3) (by decide) (by decide) (by decide)) ⟨by unfold sm; decide, by decide⟩
theorem cok_54 : Cok (dv 5 4) (dv 5 4) := cok_self (nsq_of (k := 2) (by decide) (by decide) (by decide)) ⟨by unfold sm; decide, by decide⟩
theorem cok_89 : Cok (dv 8 9) (dv 8 9) := cok_self (nsq_of (k := 2) (by decide) (by decide) (by decide)) ⟨by unfold sm; decide, by decide⟩
theorem cok_72 : Cok (dv 7 2) (dv 7 2) := cok_self (nsq_of (k := 2) (by decide) (by decide) (by decide)) ⟨by unfold sm; decide, by decide⟩
theorem cok_59 : Cok (dv 5 9) (dv 5 9) := cok_self (nsq_of (k := 2) (by decide) (by decide) (by decide)) ⟨by unfold sm; decide, by decide⟩
end

set_option maxHeartbeats 2000000
section
variable {k l m ka kb kc kd ke kf : Nat} {a b c d e f p q C X Y x y z : Rat} {Q : D → Prop}
theorem pick_c {K : D → Prop} {R : Rat → Prop} {ds : List D} (hds : ∀ d ∈ ds, ∃ c C, d = dr c ∧ Cok c C ∧ R c) (key : ∀ c C, Cok c C → R c → K (dr c)) : ∀ d ∈ ds, K d := fun d hd => by
  obtain ⟨c, C, rfl, h, r⟩ := hds d hd
  exact key c C h r
/-- the root of c is one -/
def RootOk (c : Rat) : Prop := ∃ s : D, (∀ Q : D → Prop, Q s → F_root_of [dr c] Q) ∧ ∀ Q : D → Prop, Q (.bool true) → F__law_is [s, dr 0, dr 1, dr c] Q
theorem root_self (h : Nsq c) (hb : bz 4 c) : RootOk c := ⟨nrm 0 1 c, fun Q q => by
  unfold F_root_of
  placed_of1
  rw [show c_WHOLE = dr 1 from rfl, cN]
  exact sp_tidy h hb (by decide) q, fun Q q =>
  law_is_ok (ka := 1) h bz_0 bz_1 hb bz_0 bz_1 hb (by have := h.1; grind) (by decide) rfl q⟩
theorem sq_4 : Rl.sq 4 = 2 := by
  have h1 := Rl.sq_mul (c := 4) (by decide)
  have h2 := sq_pos (c := 4) (by decide)
  have h3 : Rl.q 4 = 2 * 2 := by rw [show (4 : Rat) = 2 * 2 by grind, Rl.q_mul, Rl.q_two]
  rw [h3] at h1
  have h4 : (Rl.sq 4 - 2) * (Rl.sq 4 + 2) = 0 := by grind
  have h5 : sr (Rl.sq 4 - 2) * sr (Rl.sq 4 + 2) = 0 := by rw [← sr_mul, h4, sr_zero]
  rw [sr_pos (show 0 < Rl.sq 4 + 2 by grind), Int.mul_one] at h5
  rcases sr_cases (Rl.sq 4 - 2) with ⟨e, h⟩ | ⟨e, h⟩ | ⟨e, h⟩
  · omega
  · grind
  · omega
theorem tidy4 (ha' : bz 29 a) (hb' : bz 29 b) (b0 : b ≠ 0) (h : Q (rt (a + 2 * b) 0 0)) : F_tidy [dr a, dr b, dr 4] Q := by
  unfold F_tidy
  placed_of1
  rw [cN, eqv_dr, decide_eq_false b0]
  placed_of1
  refine sp_whole_root (k := 4) (by decide) (sm_of (by decide) (by decide)) (by decide) fun u u0 u1 u2 => ?_
  have u1' : u * u ≤ 4 := u1
  have u2' : 4 < (u + 1) * (u + 1) := u2
  have hu : u = 2 := by
    have h1 : u < 3 := by
      refine Classical.byContradiction fun z => ?_
      have := Int.mul_le_mul (a := 3) (b := 3) (c := u) (d := u) (by omega) (by omega) (by omega) (by omega)
      omega
    have h2 : 1 < u := by
      refine Classical.byContradiction fun z => ?_
      have := Int.mul_le_mul (a := u + 1) (b := u + 1) (c := 2) (d := 2) (by omega) (by omega) (by omega) (by omega)
      omega
    omega
  subst hu
  rw [if_pos (by decide)]
  placed_of1
  refine sp_whole_root (k := 4) (by decide) (sm_of (by decide) (by decide)) (by decide) fun v v0 v1 v2 => ?_
  have v1' : v * v ≤ 1 := v1
  have v2' : 1 < (v + 1) * (v + 1) := v2
  have hv : v = 1 := by
    have h1 : v < 2 := by
      refine Classical.byContradiction fun z => ?_
      have := Int.mul_le_mul (a := 2) (b := 2) (c := v) (d := v) (by omega) (by omega) (by omega) (by omega)
      omega
    have h2 : 0 < v := by
      refine Classical.byContradiction fun z => ?_
      have := Int.mul_le_mul (a := v + 1) (b := v + 1) (c := 1) (d := 1) (by omega) (by omega) (by omega) (by omega)
      omega
    omega
  subst hv
  rw [if_pos (by decide)]
  placed_of1
  rw [lit21]
  placed_of1
  rw [show b * 2 = 2 * b by grind]
  exact h
theorem root_4 : RootOk 4 := ⟨nrm 2 0 2, fun Q q => by
  unfold F_root_of
  placed_of1
  rw [show c_WHOLE = dr 1 from rfl, cN]
  refine tidy4 (bz_mono bz_0 (by decide)) (bz_mono bz_1 (by decide)) (by decide) ?_
  rw [show (0 : Rat) + 2 * 1 = 2 by grind, ← nrm_0 2 2]
  exact q, fun Q q => by
  refine law_is_ok (ka := 2) (kc := 4) nsq_2 bz_2 (bz_mono bz_0 (by decide)) (bz_mono bz_2 (by decide)) (bz_mono bz_0 (by decide)) (bz_mono bz_1 (by decide)) cok_4.bc (by decide) (by decide) ?_ q
  unfold val
  rw [sq_4, Rl.q_zero, Rl.q_one, Rl.q_two]; grind⟩
theorem root_0 : RootOk 0 := ⟨nrm 0 0 2, fun Q q => by
  unfold F_root_of
  placed_of1
  rw [show c_WHOLE = dr 1 from rfl, cN]
  refine sp_tidy0 bz_1 ?_ (.inr rfl)
  rw [← nrm_0 0 2]
  exact q, fun Q q => by
  refine law_is_ok (ka := 2) (kc := 2) nsq_2 (bz_mono bz_0 (by decide)) (bz_mono bz_0 (by decide)) bz_2 (bz_mono bz_0 (by decide)) (bz_mono bz_1 (by decide)) (bz_mono bz_0 (by decide)) (by decide) (by decide) ?_ q
  unfold val
  rw [sq_zero, Rl.q_zero]; grind⟩
theorem rootOk_list : ∀ d ∈ [PyData.tuple [.int 2, .int 1], .tuple [.int 3, .int 1], .tuple [.int 5, .int 4], .tuple [.int 4, .int 1], .tuple [.int 0, .int 1], .tuple [.int 8, .int 9], .tuple [.int 7, .int 2]],
    ∃ c C, d = dr c ∧ Cok c C ∧ RootOk c := by
  intro d hd
  simp only [List.mem_cons, List.not_mem_nil, or_false] at hd
  rcases hd with rfl | rfl | rfl | rfl | rfl | rfl | rfl
  · exact ⟨2, 2, rfl, cok_2, root_self cok_2.n cok_2.bc⟩
  · exact ⟨3, 3, rfl, cok_3, root_self cok_3.n cok_3.bc⟩
  · exact ⟨dv 5 4, _, rfl, cok_54, root_self cok_54.n cok_54.bc⟩
  · exact ⟨4, 2, rfl, cok_4, root_4⟩
  · exact ⟨0, 2, rfl, cok_0, root_0⟩
  · exact ⟨dv 8 9, _, rfl, cok_89, root_self cok_89.n cok_89.bc⟩
  · exact ⟨dv 7 2, _, rfl, cok_72, root_self cok_72.n cok_72.bc⟩
end

section
variable {k l m ka kb kc kd ke kf : Nat} {a b c d e f p q C X Y x y z : Rat} {Q : D → Prop}
theorem val_add : val a b C + val d f C = val (a + d) (b + f) C := by unfold val; rw [Rl.q_add, Rl.q_add]; grind
theorem val_trd2 (h : b = 0 → Y = 0) : val X Y (trd b C) = val X Y C := by
  unfold trd
  by_cases hb : b = 0
  · rw [h hb]
    unfold val
    rw [Rl.q_zero]; grind
  · rw [if_neg hb]
theorem num_0 : Rat.num 0 = 0 := rfl
set_option hygiene false
local macro_rules | `(tactic| keq_rows) => `(tactic| refine law_is_ok (ka := 260) (kc := 6) hN (bz_mono (by dl_puts) (by omega)) (bz_mono (by dl_puts) (by omega)) (bz_mono hB (by decide)) (bz_mono (by dl_puts) (by omega)) (bz_mono (by dl_puts) (by omega)) hEb hE0 (by decide) (hEv _ _ (fun h1 h2 => by (try rw [h1]); (try rw [h2]); grind)).symm ?_)
set_option hygiene true
set_option hygiene false
local macro_rules | `(tactic| kct_strs) => `(tactic| (
  placed_of1
  rw [eqv_int, decide_eq_true rfl]
  placed_of1
  obtain ⟨s, r1, r2⟩ := hr
  refine r1 _ ?_
  placed_of1
  rw [lit01, lit11]
  refine r2 _ ?_
  placed_of1
  rw [lit01, ← nrm_0 p 2]
  refine law_is_ok (ka := 29) (kc := 4) nsq_2 hpb (bz_mono bz_0 (by decide)) (bz_mono bz_2 (by decide)) hpb (bz_mono bz_0 (by decide)) (bz_mono bz_0 (by decide)) (by decide) (by decide) ?_ ?_
  · unfold val
    rw [Rl.q_zero]; grind
  placed_of1
  exact h))
set_option hygiene true
theorem back_a (h : d * d - f * f * C ≠ 0) : (a * (d / (d * d - f * f * C)) + b * -(f / (d * d - f * f * C)) * C) * d + (a * -(f / (d * d - f * f * C)) + b * (d / (d * d - f * f * C))) * f * C = a := by
  have e1 : d / (d * d - f * f * C) * (d * d - f * f * C) = d := Rat.div_mul_cancel h
  have e2 : f / (d * d - f * f * C) * (d * d - f * f * C) = f := Rat.div_mul_cancel h
  generalize hu : d / (d * d - f * f * C) = u at *
  generalize hv : f / (d * d - f * f * C) = v at *
  have e3 : (u * d - v * f * C - 1) * (d * d - f * f * C) = 0 := by grind
  have e4 : u * d - v * f * C = 1 := by
    rcases Rat.mul_eq_zero.mp e3 with z | z
    · grind
    · exact (h z).elim
  grind
theorem back_b (h : d * d - f * f * C ≠ 0) : (a * (d / (d * d - f * f * C)) + b * -(f / (d * d - f * f * C)) * C) * f + (a * -(f / (d * d - f * f * C)) + b * (d / (d * d - f * f * C))) * d = b := by
  have e1 : d / (d * d - f * f * C) * (d * d - f * f * C) = d := Rat.div_mul_cancel h
  have e2 : f / (d * d - f * f * C) * (d * d - f * f * C) = f := Rat.div_mul_cancel h
  generalize hu : d / (d * d - f * f * C) = u at *
  generalize hv : f / (d * d - f * f * C) = v at *
  have e3 : (u * d - v * f * C - 1) * (d * d - f * f * C) = 0 := by grind
  have e4 : u * d - v * f * C = 1 := by
    rcases Rat.mul_eq_zero.mp e3 with z | z
    · grind
    · exact (h z).elim
  have e5 : (u * f - v * d) * (d * d - f * f * C) = 0 := by grind
  have e6 : u * f - v * d = 0 := by
    rcases Rat.mul_eq_zero.mp e5 with z | z
    · exact z
    · exact (h z).elim
  grind
set_option hygiene false
local macro_rules | `(tactic| k_allIn) => `(tactic| (
  placed_of1
  keq_rows
  placed_of1
  keq_rows
  placed_of1
  rw [hEm]
  keq_rows
  placed_of1
  keq_rows
  placed_of1
  rw [eqv_int]
  by_cases hz : sg1 d f (trd f C) = 0
  · rw [decide_eq_true hz]
    placed_of1
    kct_strs
  · rw [decide_eq_false hz]
    have hdf : ¬ (d = 0 ∧ f = 0) := fun w => hz (by rw [w.1, w.2]; rfl)
    placed_of0
    have hl := low_ne hN hdf
    have hlb : bz 249 (d * d - f * f * C) := bz_mono (by dl_puts) (by omega)
    have b1 := bz_over hd hlb hl
    have b2 := bz_over hf hlb hl
    refine sp_over_root (k := 61) (m := 4) hN hB ha hb hd hf (by decide) (by decide) hdf ?_
    placed_of0
    refine sp_times_root (k := 800) (l := 61) hN hB (bz_mono (by dl_puts) (by omega)) (bz_mono (by dl_puts) (by omega)) hd hf (by decide) (by decide) ?_
    rw [back_a hl, back_b hl]
    placed_of0
    refine sp__law_compare (ka := 61) (kb := 61) (kd := 61) (ke := 61) (kc := 6) (kf := 6) hB0 hB0 ha hb (bz_mono (bz_trd1 hB) (by decide)) ha hb (bz_mono (bz_trd1 hB) (by decide)) (by decide) ?_
    rw [cmp_same (by have := hN.1; grind) hB0 (val_trd a b C).symm]
    placed_of0
    kct_strs))
set_option hygiene true
theorem sums_ok (h : Q (.bool true)) : F__law_sums [wD] Q := by
  unfold F__law_sums
  placed_of0
  refine pick_ok (by decide) (pick_c (R := RootOk) rootOk_list ?_)
  intro c C hc hr
  placed_of0
  refine number_ok hc fun p1 p2 a b hp1 hp2 ha hb' _ _ => ?_
  placed_of0
  refine number_ok hc fun p3 p4 d f hp3 hp4 hd hf' _ _ => ?_
  placed_of0
  refine part_ok fun p hp => ?_
  have hb : bz 61 b := bz_mono hb' (by decide)
  have hf : bz 61 f := bz_mono hf' (by decide)
  have hpb := hp.bz
  have hN := hc.n
  have hB := hc.bC
  placed_of0
  have hF0 : 0 ≤ trd f C := trd_nonneg (by have := hN.1; grind)
  have hB0 : 0 ≤ trd b C := trd_nonneg (by have := hN.1; grind)
  by_cases hb0 : b = 0
  · have e0 : trd b C = 0 := by unfold trd; rw [if_pos hb0]
    rw [decide_eq_false (by rw [e0, num_0]; decide)]
    have hE0 : 0 ≤ trd f C := trd_nonneg (by have := hN.1; grind)
    have hEb : bz 6 (trd f C) := bz_mono (bz_trd1 hB) (by decide)
    have hEv : ∀ X Y, (b = 0 → f = 0 → Y = 0) → val X Y (trd f C) = val X Y C := fun X Y h => val_trd2 (h hb0)
    have hEm : b * f * trd f C = b * f * C := by rw [hb0]; grind
    k_allIn
  · have e0 : trd b C = C := by unfold trd; rw [if_neg hb0]
    rw [decide_eq_true (by rw [e0, num_c (by have := hN.1; grind)]; have := hN.1; grind)]
    have hE0 : 0 ≤ trd b C := trd_nonneg (by have := hN.1; grind)
    have hEb : bz 6 (trd b C) := bz_mono (bz_trd1 hB) (by decide)
    have hEv : ∀ X Y, (b = 0 → f = 0 → Y = 0) → val X Y (trd b C) = val X Y C := fun X Y h => val_trd2 fun z => (hb0 z).elim
    have hEm : b * f * trd b C = b * f * C := by rw [e0]
    k_allIn
end
set_option hygiene false
local macro_rules | `(tactic| keq_rows) => `(tactic| refine law_is_ok (ka := 260) (kc := 6) hN (bz_mono (by dl_puts) (by omega)) (bz_mono (by dl_puts) (by omega)) (bz_mono hB (by decide)) (bz_mono (by dl_puts) (by omega)) (bz_mono (by dl_puts) (by omega)) hEb hE0 (by decide) (hEv _ _ (fun h1 h2 => by (try rw [h1]); (try rw [h2]); grind)).symm ?_)
set_option hygiene true
set_option hygiene false
local macro_rules | `(tactic| kct_strs) => `(tactic| (
  placed_of1
  rw [eqv_int, decide_eq_true rfl]
  placed_of1
  obtain ⟨s, r1, r2⟩ := hr
  refine r1 _ ?_
  placed_of1
  rw [lit01, lit11]
  refine r2 _ ?_
  placed_of1
  rw [lit01, ← nrm_0 p 2]
  refine law_is_ok (ka := 29) (kc := 4) nsq_2 hpb (bz_mono bz_0 (by decide)) (bz_mono bz_2 (by decide)) hpb (bz_mono bz_0 (by decide)) (bz_mono bz_0 (by decide)) (by decide) (by decide) ?_ ?_
  · unfold val
    rw [Rl.q_zero]; grind
  placed_of1
  exact h))
set_option hygiene true
set_option hygiene false
local macro_rules | `(tactic| k_allIn) => `(tactic| (
  placed_of1
  keq_rows
  placed_of1
  keq_rows
  placed_of1
  rw [hEm]
  keq_rows
  placed_of1
  keq_rows
  placed_of1
  rw [eqv_int]
  by_cases hz : sg1 d f (trd f C) = 0
  · rw [decide_eq_true hz]
    placed_of1
    kct_strs
  · rw [decide_eq_false hz]
    have hdf : ¬ (d = 0 ∧ f = 0) := fun w => hz (by rw [w.1, w.2]; rfl)
    placed_of0
    have hl := low_ne hN hdf
    have hlb : bz 249 (d * d - f * f * C) := bz_mono (by dl_puts) (by omega)
    have b1 := bz_over hd hlb hl
    have b2 := bz_over hf hlb hl
    refine sp_over_root (k := 61) (m := 4) hN hB ha hb hd hf (by decide) (by decide) hdf ?_
    placed_of0
    refine sp_times_root (k := 800) (l := 61) hN hB (bz_mono (by dl_puts) (by omega)) (bz_mono (by dl_puts) (by omega)) hd hf (by decide) (by decide) ?_
    rw [back_a hl, back_b hl]
    placed_of0
    refine sp__law_compare (ka := 61) (kb := 61) (kd := 61) (ke := 61) (kc := 6) (kf := 6) hB0 hB0 ha hb (bz_mono (bz_trd1 hB) (by decide)) ha hb (bz_mono (bz_trd1 hB) (by decide)) (by decide) ?_
    rw [cmp_same (by have := hN.1; grind) hB0 (val_trd a b C).symm]
    placed_of0
    kct_strs))
set_option hygiene true

section
variable {k l m ka kb kc kd ke kf : Nat} {a b c d e f p q C X Y x y z : Rat} {Q : D → Prop}
/-! ### whole parts -/
noncomputable def fl (v : Rl) : Int := open Classical in if h : ∃ n : Int, Rl.q n ≤ v ∧ v < Rl.q ((n + 1 : Int) : Rat) then h.choose else 0
theorem fl_eq {v : Rl} {n : Int} (h1 : Rl.q n ≤ v) (h2 : v < Rl.q ((n + 1 : Int) : Rat)) : n = fl v := by
  have h : ∃ n : Int, Rl.q n ≤ v ∧ v < Rl.q ((n + 1 : Int) : Rat) := ⟨n, h1, h2⟩
  unfold fl
  rw [dif_pos h]
  obtain ⟨g1, g2⟩ := h.choose_spec
  generalize h.choose = j at *
  have e1 : Rl.q n < Rl.q ((j + 1 : Int) : Rat) := by grind
  have e2 : Rl.q j < Rl.q ((n + 1 : Int) : Rat) := by grind
  rw [Rl.q_lt, Rat.intCast_lt_intCast] at e1 e2
  omega
theorem dr_int (n : Int) : PyData.tuple [.int n, .int 1] = dr (n : Rat) := rfl
theorem bz_int {n : Int} (h : sm k n) (hk : 1 ≤ k) : bz k (n : Rat) := ⟨h, Nat.lt_of_lt_of_le (by decide : 1 < 2 ^ 1) (Nat.pow_le_pow_right (by decide) hk)⟩
theorem val_int (n : Int) : val (n : Rat) 0 0 = Rl.q n := by unfold val; rw [Rl.q_zero]; grind
theorem cmp_int (hc : 0 ≤ c) (n : Int) : cmp (n : Rat) 0 0 a b c = sr (Rl.q n - val a b c) := by rw [cmp_val (by decide) hc, val_int]
theorem cmp_rat (hc : 0 ≤ c) : cmp p 0 0 a b c = sr (Rl.q p - val a b c) := by
  rw [cmp_val (by decide) hc]
  congr 1
  unfold val
  rw [Rl.q_zero]; grind
theorem sr_le {v : Rl} : sr v ≤ 0 ↔ v ≤ 0 := by
  rcases sr_cases v with ⟨e, h⟩ | ⟨e, h⟩ | ⟨e, h⟩ <;> rw [e] <;> constructor <;> grind
theorem sr_lt {v : Rl} : sr v < 0 ↔ v < 0 := by
  rcases sr_cases v with ⟨e, h⟩ | ⟨e, h⟩ | ⟨e, h⟩ <;> rw [e] <;> constructor <;> grind
theorem sr_gt {v : Rl} : 0 < sr v ↔ 0 < v := by
  rcases sr_cases v with ⟨e, h⟩ | ⟨e, h⟩ | ⟨e, h⟩ <;> rw [e] <;> constructor <;> grind
theorem floor_loop (hc0 : 0 ≤ c) (ha : bz ka a) (hb : bz kb b) (hc : bz kc c) (hk1 : 1 ≤ k) (hk : 6 * k + 6 * ka + 4 * kb + 2 * kc < 7600) : ∀ (n : Nat) (lo hi : Int) (s : Sl) (P : Po), lo < hi → (hi - lo).toNat ≤ n → Rl.q lo ≤ val a b c → val a b c < Rl.q hi → sm k lo → sm k hi →
    (∀ (lo' : Int) s', Rl.q lo' ≤ val a b c → val a b c < Rl.q ((lo' + 1 : Int) : Rat) → sm k lo' → P.nx [.va (rt a b c), .va (.int lo'), .va (.int (lo' + 1)), s']) →
    whileW (eT (eOp fGt (eOp fSub (eVar 2) (eVar 1)) (eC (.int 1)))) (sSeq (sAsg (eOp fDiv (eOp fAdd (eVar 1) (eVar 2)) (eC (.int 2))) (mgName 3)) (sIf (eT (eOp fLe (eCallN 2 F_compare (aCons (eCallN 1 F_plain (aCons (eCallN 1 F_whole (aCons (eVar 3) aNil)) aNil)) (aCons (eVar 0) aNil))) (eC (.int 0)))) (sAsg (eVar 3) (mgName 1)) (sAsg (eVar 3) (mgName 2)))) n
      [.va (rt a b c), .va (.int lo), .va (.int hi), s] P
  | 0, lo, hi, s, P, h1, h2, _, _, _, _, _ => by omega
  | n + 1, lo, hi, s, P, h1, h2, h3, h4, hs1, hs2, hP => by
    unfold whileW
    obtain ⟨nx, rt', bk, ct⟩ := P
    placed_of0
    by_cases hd : 1 < hi - lo
    · rw [decide_eq_true hd]
      placed_of0
      · exact cdv sm_2 (by decide) (by decide)
      have hm : sm k ((lo + hi).fdiv 2) := by
        unfold sm at *
        rw [Int.fdiv_eq_ediv_of_nonneg _ (by decide)]
        omega
      have e : (lo + hi).fdiv 2 = (lo + hi) / 2 := Int.fdiv_eq_ediv_of_nonneg _ (by decide)
      rw [e] at hm ⊢
      placed_of0
      unfold F_whole
      placed_of0
      rw [dr_int]
      placed_of1
      refine sp_compare (ka := k) (kb := 1) (kc := 1) (bz_int hm hk1) bz_0 bz_0 ha hb hc (by omega) ?_
      rw [cmp_int hc0]
      placed_of0
      by_cases hcm : sr (Rl.q ((lo + hi) / 2 : Int) - val a b c) ≤ 0
      · rw [decide_eq_true hcm]
        placed_of0
        rw [sr_le] at hcm
        exact floor_loop hc0 ha hb hc hk1 hk n _ hi _ _ (by omega) (by omega) (by grind) h4 hm hs2 hP
      · rw [decide_eq_false hcm]
        placed_of0
        rw [sr_le] at hcm
        exact floor_loop hc0 ha hb hc hk1 hk n lo _ _ _ (by omega) (by omega) h3 (by grind) hs1 hm hP
    · rw [decide_eq_false hd]
      placed_of0
      have e : hi = lo + 1 := by omega
      subst e
      exact hP lo s h3 h4 hs1
theorem rat_floor (r : Rat) : ((r.num.fdiv (r.den : Nat) : Int) : Rat) ≤ r ∧ r < ((r.num.fdiv (r.den : Nat) + 1 : Int) : Rat) := by
  have hp : (0 : Int) < (r.den : Nat) := by have := r.den_pos; omega
  have e := rat_eq r
  have h1 := Int.fmod_add_mul_fdiv r.num (r.den : Nat)
  have h2 := Int.fmod_nonneg_of_pos r.num hp
  have h3 := Int.fmod_lt_of_pos r.num hp
  have hq : (0 : Rat) < ((r.den : Nat) : Rat) := by
    have := Rat.intCast_lt_intCast.mpr hp
    exact this
  constructor
  · refine Rat.le_of_mul_le_mul_right (c := ((r.den : Nat) : Rat)) ?_ hq
    rw [← e]
    have : r.num.fdiv (r.den : Nat) * (r.den : Nat) ≤ r.num := by rw [Int.mul_comm]; omega
    have := Rat.intCast_le_intCast.mpr this
    rw [Rat.intCast_mul] at this
    exact this
  · refine Rat.lt_of_mul_lt_mul_right (c := ((r.den : Nat) : Rat)) ?_ (by grind)
    rw [← e]
    have : r.num < (r.num.fdiv (r.den : Nat) + 1) * (r.den : Nat) := by rw [Int.add_mul, Int.mul_comm]; omega
    have := Rat.intCast_lt_intCast.mpr this
    rw [Rat.intCast_mul] at this
    exact this
theorem abs_floor (r : Rat) : -((((if r.num < 0 then -r.num else r.num).fdiv (r.den : Nat) + 1 : Int) : Rat)) < r ∧ r < (((if r.num < 0 then -r.num else r.num).fdiv (r.den : Nat) + 1 : Int) : Rat) := by
  have hr : ∀ r : Rat, 0 ≤ r → (0 : Rat) ≤ ((r.num.fdiv (r.den : Nat) : Int) : Rat) := fun r h => by
    have : (0 : Int) ≤ r.num.fdiv (r.den : Nat) := Int.fdiv_nonneg (Rat.num_nonneg.mpr h) (by omega)
    exact Rat.intCast_le_intCast.mpr this
  by_cases h : r.num < 0
  · rw [if_pos h]
    have h1 := rat_floor (-r)
    have h0 : r ≤ 0 := by
      have : 0 ≤ (-r).num := by rw [Rat.neg_num]; omega
      have := Rat.num_nonneg.mp this
      grind
    rw [Rat.neg_num, Rat.neg_den] at h1
    have h2 := hr (-r) (by grind)
    rw [Rat.neg_num, Rat.neg_den] at h2
    rw [Rat.intCast_add] at *
    generalize (((-r.num).fdiv (r.den : Nat) : Int) : Rat) = A at *
    have : ((1 : Int) : Rat) = 1 := rfl
    rw [this] at *
    constructor <;> grind
  · rw [if_neg h]
    have h1 := rat_floor r
    have h0 : 0 ≤ r := Rat.num_nonneg.mp (by omega)
    have h2 := hr r h0
    rw [Rat.intCast_add] at *
    generalize ((r.num.fdiv (r.den : Nat) : Int) : Rat) = A at *
    have : ((1 : Int) : Rat) = 1 := rfl
    rw [this] at *
    constructor <;> grind
theorem sm_fdiv {i j : Int} (h : sm k i) (hi : 0 ≤ i) (hj : 0 ≤ j) : sm k (i.fdiv j) := by
  unfold sm at *
  rw [Int.fdiv_eq_ediv_of_nonneg _ hj]
  have := Int.natAbs_ediv_le_natAbs i j
  omega
theorem bound_ok (hc0 : 0 ≤ c) (ha : bz ka a) (hb : bz kb b) (hc : bz kc c) (hk : ka + 2 * kb + kc < 2000)
    (h : ∀ B : Int, Rl.q ((-B : Int) : Rat) ≤ val a b c → val a b c < Rl.q B → 0 < B → sm (ka + kb + kb + kc + 3) B → Q (.int B)) : F_bound_of [rt a b c] Q := by
  unfold F_bound_of
  placed_of1
  · exact cdv (sm_den ha) (den_ne a) (by omega)
  have hbb : bz (kb + kb + kc) (b * b * c) := by dl_puts
  placed_of0
  · exact cdv (sm_den hbb) (den_ne _) (by omega)
  placed_of0
  have h1 := abs_floor a
  have h2 := rat_floor (b * b * c)
  have hn : 0 ≤ b * b * c := Rat.mul_nonneg (by rcases Rat.le_total (a := 0) (b := b) with z | z; exact Rat.mul_nonneg z z; have := Rat.mul_nonneg (a := -b) (b := -b) (by grind) (by grind); grind) hc0
  have hn2 : 0 ≤ (b * b * c).num := Rat.num_nonneg.mpr hn
  have hA0 : 0 ≤ (if a.num < 0 then -a.num else a.num) := by split <;> omega
  have hAs : sm ka (if a.num < 0 then -a.num else a.num) := by
    split
    · exact sm_neg ha.1
    · exact ha.1
  have s1 := sm_fdiv (j := (a.den : Nat)) hAs hA0 (by omega)
  have s2 := sm_fdiv (j := ((b * b * c).den : Nat)) hbb.1 hn2 (by omega)
  have p1 : 0 ≤ (if a.num < 0 then -a.num else a.num).fdiv (a.den : Nat) := Int.fdiv_nonneg hA0 (by omega)
  have p2 : 0 ≤ (b * b * c).num.fdiv ((b * b * c).den : Nat) := Int.fdiv_nonneg hn2 (by omega)
  have hsq := Rl.sq_mul hc0
  have ht : Rl.q b * Rl.sq c * (Rl.q b * Rl.sq c) = Rl.q (b * b * c) := by
    rw [Rl.q_mul, Rl.q_mul, ← hsq]; grind
  generalize (if a.num < 0 then -a.num else a.num).fdiv (a.den : Nat) = A at *
  generalize (b * b * c).num.fdiv ((b * b * c).den : Nat) = T at *
  have k1 := Rl.q_lt.mpr h1.1
  have k2 := Rl.q_lt.mpr h1.2
  have k3 := Rl.q_lt.mpr h2.2
  rw [← ht] at k3
  have e1 : ∀ i j : Int, Rl.q ((i + j : Int) : Rat) = Rl.q i + Rl.q j := fun i j => by rw [Rat.intCast_add, Rl.q_add]
  have e2 : Rl.q ((1 : Int) : Rat) = 1 := rfl
  have e3 : Rl.q ((3 : Int) : Rat) = 3 := rfl
  have e4 : ∀ i : Int, Rl.q ((-i : Int) : Rat) = -Rl.q i := fun i => by rw [Rat.intCast_neg, Rl.q_neg]
  rw [Rl.q_neg] at k1
  rw [e1, e2] at k1 k2 k3
  have v1 : ∀ t : Rl, 0 < t * t - t + 1 := fun t => by
    have : 0 ≤ (2 * t - 1) * (2 * t - 1) := by
      rcases sr_cases (2 * t - 1) with ⟨_, z⟩ | ⟨_, z⟩ | ⟨_, z⟩
      · have := Rl.mul_pos z z; grind
      · rw [z]; grind
      · have := Rl.mul_pos (x := -(2 * t - 1)) (y := -(2 * t - 1)) (by grind) (by grind); grind
    grind
  refine h (A + T + 3) ?_ ?_ (by omega) ?_
  · rw [e4, e1, e1, e3]
    unfold val
    have := v1 (-(Rl.q b * Rl.sq c))
    grind
  · rw [e1, e1, e3]
    unfold val
    have := v1 (Rl.q b * Rl.sq c)
    grind
  · have t1 : sm (ka + kb + kb + kc) A := sm_mono s1 (by omega)
    have t2 : sm (ka + kb + kb + kc) T := sm_mono s2 (by omega)
    unfold sm at *
    have := Nat.one_le_two_pow (n := ka + kb + kb + kc)
    rw [Nat.pow_add]
    omega
theorem floor_ok (hc0 : 0 ≤ c) (ha : bz ka a) (hb : bz kb b) (hc : bz kc c) (hk : 12 * ka + 16 * kb + 8 * kc < 7500)
    (h : ∀ n : Int, n = fl (val a b c) → Rl.q n ≤ val a b c → val a b c < Rl.q ((n + 1 : Int) : Rat) → sm (ka + kb + kb + kc + 3) n → Q (.int n)) : F_floor_of [rt a b c] Q := by
  unfold F_floor_of
  placed_of0
  refine bound_ok hc0 ha hb hc (by omega) fun B b1 b2 b3 b4 => ?_
  placed_of0
  refine bound_ok hc0 ha hb hc (by omega) fun B' b1' b2' b3' b4' => ?_
  placed_of0
  refine ⟨(B' - -B).toNat, floor_loop hc0 ha hb hc (k := ka + kb + kb + kc + 3) (by omega) (by omega) _ (-B) B' _ _ (by omega) (by omega) b1 b2' (sm_neg b4) b4' fun n s n1 n2 n3 => ?_⟩
  placed_of0
  exact h n (fl_eq n1 n2) n1 n2 n3
end

section
variable {k l m ka kb kc kd ke kf : Nat} {a b c d e f p q C X Y x y z : Rat} {Q : D → Prop}
theorem sp_whole {n : Int} (h : Q (dr (n : Rat))) : F_whole [.int n] Q := by
  unfold F_whole
  placed_of0
  rw [dr_int]
  exact h
local macro_rules | `(tactic| dl_keeps) => `(tactic| (with_reducible apply sp_whole))
theorem val_mul : val (a * p) (b * p) C = val a b C * Rl.q p := by unfold val; rw [Rl.q_mul, Rl.q_mul]; grind
theorem floor_nrm (hc : Nsq C) (hs : bz kc C) (ha : bz ka a) (hb : bz kb b) (hk : 12 * ka + 16 * kb + 8 * kc < 7400)
    (h : ∀ n : Int, n = fl (val a b C) → Rl.q n ≤ val a b C → val a b C < Rl.q ((n + 1 : Int) : Rat) → sm (ka + kb + kb + (kc + 1) + 3) n → Q (.int n)) : F_floor_of [nrm a b C] Q := by
  refine floor_ok (trd_nonneg (by have := hc.1; grind)) ha hb (bz_trd1 hs) (by omega) fun n h1 h2 h3 h4 => ?_
  rw [val_trd] at h1 h2 h3
  exact h n h1 h2 h3 h4
theorem near_ok {i : Int} (hi : i ≠ 0) (hil : sm l i) (hl : 1 ≤ l) (hc : Nsq C) (hs : bz kc C) (ha : bz k a) (hb : bz k b) (hk : 28 * (k + l) + 8 * kc < 7300)
    (h : ∀ n : Int, n = fl (val a b C * Rl.q i) → Rl.q n ≤ val a b C * Rl.q i → val a b C * Rl.q i < Rl.q ((n + 1 : Int) : Rat) → sm (k + l + (k + l) + (k + l) + (kc + 1) + 3) n → Q (dr (Rat.divInt n i))) : F_near_by [nrm a b C, .int i] Q := by
  unfold F_near_by
  placed_of0
  refine sp_whole ?_
  placed_of0
  have hib := bz_int hil hl
  refine sp_by_fraction hc hs ha hb hib (by omega) (by omega) ?_
  placed_of0
  refine floor_nrm hc hs (ka := k + l) (kb := k + l) (by dl_puts) (by dl_puts) (by omega) fun n n1 n2 n3 n4 => ?_
  rw [val_mul] at n1 n2 n3
  placed_of0
  refine fraction_ok hi hil (by omega) ?_
  exact h n n1 n2 n3 n4
theorem pow10 : ∀ (j : Nat) (s : Sl) (sc : Int) (i : Nat) (P : Po) (kk : Nat), sm kk sc → kk + 4 * j < 1000 → (∀ s', P.nx [.va (nrm a b C), .va (.int (i : Nat)), .va (.int (sc * 10 ^ j)), s']) →
    ∀ o : Nat, forW (mgName 3) (sAug 2 fMul (eC (.int 10))) ((List.range' o j).map fun t : Nat => PyData.int (0 + (t : Int))) [.va (nrm a b C), .va (.int (i : Nat)), .va (.int sc), s] P
  | 0, s, sc, i, P, kk, _, _, h, o => by
    obtain ⟨nx, rt', bk, ct⟩ := P
    have := h s
    rw [Int.pow_zero, Int.mul_one] at this
    exact this
  | j + 1, s, sc, i, P, kk, hsc, hk, h, o => by
    obtain ⟨nx, rt', bk, ct⟩ := P
    rw [List.range'_succ, List.map_cons]
    placed_of0
    · exact cmul hsc (show sm 4 10 by unfold sm; decide) (by omega)
    placed_of0
    refine pow10 j _ (sc * 10) i _ (kk + 4) (sm_mul hsc (show sm 4 10 by unfold sm; decide)) (by omega) (fun s' => ?_) (o + 1)
    have := h s'
    rw [show sc * 10 * 10 ^ j = sc * 10 ^ (j + 1) by rw [Int.pow_succ]; grind]
    exact this
theorem rngD_range' (j : Nat) : rngD 0 ((j : Nat) : Int).toNat = (List.range' 0 j).map fun t : Nat => PyData.int (0 + (t : Int)) := by
  unfold rngD
  rw [Int.toNat_natCast, List.range_eq_range']
theorem divInt_half : Rat.divInt (-1) 2 = -(1 / 2) := by decide +kernel
theorem sm_pow10 (j : Nat) : sm (4 * j + 1) (10 ^ j) := by
  induction j with
  | zero => unfold sm; decide
  | succ j ih =>
    rw [Int.pow_succ]
    exact sm_mono (sm_mul ih (show sm 4 10 by unfold sm; decide)) (by omega)
theorem rounded_ok {j : Nat} (hj : j ≤ 3) (hc : Nsq C) (hs : bz kc C) (ha : bz k a) (hb : bz k b) (hkc : kc ≤ 100) (hk : k ≤ 100) (hk1 : 1 ≤ k)
    (h : ∀ n : Int, n = fl (val a b C * Rl.q ((10 ^ j : Int) : Rat) + Rl.q (1 / 2)) → Rl.q n ≤ val a b C * Rl.q ((10 ^ j : Int) : Rat) + Rl.q (1 / 2) → val a b C * Rl.q ((10 ^ j : Int) : Rat) + Rl.q (1 / 2) < Rl.q ((n + 1 : Int) : Rat) → sm 900 n → Q (.int n)) : F_rounded [nrm a b C, .int (j : Nat)] Q := by
  unfold F_rounded
  placed_of0
  refine w_kR1 (by omega) (by omega) ?_
  rw [rngD_range']
  placed_of0
  refine pow10 j _ 1 j _ 1 (by unfold sm; decide) (by omega) (fun s' => ?_) 0
  rw [Int.one_mul]
  placed_of0
  refine sp_whole ?_
  placed_of0
  have hsj : sm 13 (10 ^ j : Int) := sm_mono (sm_pow10 j) (by omega)
  have hib := bz_int hsj (by decide)
  refine sp_by_fraction hc hs ha hb hib (by omega) (by omega) ?_
  placed_of0
  refine fraction_ok (k := 2) (by decide) (by unfold sm; decide) (by decide) ?_
  placed_of1
  rw [divInt_half, ← nrm_0 _ C]
  have hh : bz (k + 13) (-(1 / 2) : Rat) := bz_mono (k := 2) (by rw [← divInt_half]; exact bz_div (by decide) (by unfold sm; decide) (by unfold sm; decide)) (by omega)
  refine sp_minus_root hc hs (k := k + 13) (by dl_puts) (by dl_puts) hh (bz_mono bz_0 (by omega)) (by omega) (by omega) ?_
  have e : val (a * ((10 ^ j : Int) : Rat) - -(1 / 2)) (b * ((10 ^ j : Int) : Rat) - 0) C = val a b C * Rl.q ((10 ^ j : Int) : Rat) + Rl.q (1 / 2) := by
    rw [← val_mul]
    unfold val
    rw [Rl.q_sub, Rl.q_neg, Rl.q_sub, Rl.q_zero]; grind
  placed_of0
  refine floor_nrm hc hs (ka := 2 * k + 30) (kb := 2 * k + 30) (bz_mono (bz_sub (bz_mul ha hib) hh) (by omega)) (bz_mono (bz_sub (bz_mul hb hib) bz_0) (by omega)) (by omega) fun n n1 n2 n3 n4 => ?_
  rw [e] at n1 n2 n3
  exact h n n1 n2 n3 (sm_mono n4 (by omega))
end
local macro_rules | `(tactic| dl_keeps) => `(tactic| (with_reducible apply sp_whole))

section
variable {k l m ka kb kc kd ke kf : Nat} {a b c d e f p q C X Y x y z : Rat} {Q : D → Prop}
/-! ### texts -/
theorem len_app (x y : Str) : (x ++ y).length = x.length + y.length := by
  show (x.cps ++ y.cps).size = _
  rw [Array.size_append]; rfl
theorem app_assoc (x y z : Str) : x ++ y ++ z = x ++ (y ++ z) := by
  show (⟨x.cps ++ y.cps ++ z.cps⟩ : Str) = ⟨x.cps ++ (y.cps ++ z.cps)⟩
  rw [Array.append_assoc]
theorem len_cut (z : Str) (lo hi : Option Int) : (cutS z lo hi).length ≤ z.length := by
  unfold cutS
  show (List.toArray _).size ≤ z.cps.size
  rw [List.size_toArray, List.length_take, List.length_drop, Array.length_toList]
  omega
theorem len_mul (z : Str) (n : Int) (h : n ≤ 1000) (hz : z.length ≤ 1) : (mulStr z n).length ≤ 1000 := by
  unfold mulStr
  split
  · decide
  split
  · omega
  · show (List.foldl (· ++ ·) #[] _).size ≤ 1000
    rw [fold_size]
    have h4 : n.toNat ≤ 1000 := by omega
    have h5 : n.toNat * z.cps.size ≤ 1000 * 1 := Nat.mul_le_mul h4 hz
    simp
    omega
theorem w_strc {i : Int} (h : i.natAbs.log2 < 1920) (q : Q (.str (toString i : String))) : fStr [.int i] Q := ⟨h, q⟩
theorem w_mulS {z : Str} {i : Int} (h1 : -1000 < i) (h2 : i ≤ 1000) (h3 : z.length ≤ 1000) (q : Q (.str (mulStr z i))) : fMulS (.str z) (.int i) Q := ⟨h1, h2, h3, q⟩
abbrev tstr (i : Int) : Str := Str.ofString (toString (if i < 0 then -i else i))
theorem tstr_len {i : Int} (h : sm 900 i) : (tstr i).length ≤ 900 := by
  unfold tstr
  have e : (if i < 0 then -i else i) = Int.ofNat i.natAbs := by rw [Int.ofNat_eq_natCast]; split <;> omega
  rw [e, PyProof.Rows.text_ofNat]
  show (((Nat.toDigits 10 i.natAbs).map Char.toNat).toArray).size ≤ 900
  rw [List.size_toArray, List.length_map]
  refine PyProof.Rows.digits10_le (by decide) ?_
  exact Nat.lt_of_lt_of_le h (Nat.pow_le_pow_left (by decide) _)
def txt (i : Int) (j : Nat) : Str := mulStr "0" (((j : Nat) : Int) + 1 - (tstr i).length) ++ tstr i
theorem txt_len {i : Int} {j : Nat} (h : sm 900 i) (hj : j ≤ 3) : (txt i j).length ≤ 2000 := by
  unfold txt
  rw [len_app]
  have h1 := tstr_len h
  have h2 := len_mul "0" (((j : Nat) : Int) + 1 - (tstr i).length) (by omega) (by decide)
  omega
def dgt (i : Int) (j : Nat) : Str := (if i < 0 then "-" else "") ++ cutS (txt i j) none (some ((txt i j).length - (j : Nat))) ++ (if 0 < ((j : Nat) : Int) then "." ++ cutS (txt i j) (some ((txt i j).length - (j : Nat))) none else "")
/-! what may stand in a text -/
theorem sok_iff {x : Str} : PySem.PyData.strOk x = true ↔ ∀ c ∈ x.cps.toList, c < 1114112 := by
  unfold PySem.PyData.strOk
  rw [← Array.all_toList, List.all_eq_true]
  simp only [decide_eq_true_eq]
theorem sok_app {x y : Str} (h : PySem.PyData.strOk x = true) (g : PySem.PyData.strOk y = true) : PySem.PyData.strOk (x ++ y) = true := by
  rw [sok_iff] at *
  intro c hc
  have hc : c ∈ (x.cps ++ y.cps).toList := hc
  rw [Array.toList_append, List.mem_append] at hc
  exact hc.elim (h c) (g c)
theorem sok_cut {z : Str} {lo hi : Option Int} (h : PySem.PyData.strOk z = true) : PySem.PyData.strOk (cutS z lo hi) = true := by
  rw [sok_iff] at *
  intro c hc
  have hc : c ∈ ((z.cps.toList.drop (HT.sIx z.length 0 lo)).take (HT.sIx z.length z.length hi - HT.sIx z.length 0 lo)).toArray.toList := hc
  rw [List.toList_toArray] at hc
  exact h c (List.mem_of_mem_drop (List.mem_of_mem_take hc))
theorem sok_fold (cs : Array Nat) (h : ∀ c ∈ cs.toList, c < 1114112) : ∀ (n : Nat) (acc : Array Nat), (∀ c ∈ acc.toList, c < 1114112) → ∀ c ∈ ((List.replicate n cs).foldl (· ++ ·) acc).toList, c < 1114112
  | 0, acc, g => by simpa using g
  | n + 1, acc, g => by
    rw [List.replicate_succ, List.foldl_cons]
    refine sok_fold cs h n _ fun c hc => ?_
    rw [Array.toList_append, List.mem_append] at hc
    exact hc.elim (g c) (h c)
theorem sok_mul {z : Str} {n : Int} (h : PySem.PyData.strOk z = true) : PySem.PyData.strOk (mulStr z n) = true := by
  unfold mulStr
  split
  · decide +kernel
  split
  · exact h
  · rw [sok_iff] at *
    exact sok_fold z.cps h _ #[] (by simp)
theorem sok_tstr (i : Int) : PySem.PyData.strOk (tstr i) = true := by
  unfold tstr
  have e : (if i < 0 then -i else i) = Int.ofNat i.natAbs := by rw [Int.ofNat_eq_natCast]; split <;> omega
  rw [e, PyProof.Rows.text_ofNat, sok_iff]
  intro c hc
  have hc : c ∈ ((Nat.toDigits 10 i.natAbs).map Char.toNat).toArray.toList := hc
  rw [List.toList_toArray, List.mem_map] at hc
  obtain ⟨ch, _, rfl⟩ := hc
  have := ch.valid
  show ch.val.toNat < 1114112
  rcases this with h | h <;> omega
theorem sok_txt (i : Int) (j : Nat) : PySem.PyData.strOk (txt i j) = true := sok_app (sok_mul (by decide +kernel)) (sok_tstr i)
theorem sok_dgt (i : Int) (j : Nat) : PySem.PyData.strOk (dgt i j) = true := by
  unfold dgt
  refine sok_app (sok_app ?_ (sok_cut (sok_txt i j))) ?_
  · split <;> decide +kernel
  · split
    · exact sok_app (by decide +kernel) (sok_cut (sok_txt i j))
    · decide +kernel
theorem okD_str {x : Str} (h : PySem.PyData.strOk x = true) : okD (.str x) := ⟨rfl, by
  show (PySem.PyData.strOk x && decide (0 ≤ 64)) = true
  rw [h]; rfl⟩
theorem digits_ok {j : Nat} (hj : j ≤ 3) (hc : Nsq C) (hs : bz kc C) (ha : bz k a) (hb : bz k b) (hkc : kc ≤ 100) (hk : k ≤ 100) (hk1 : 1 ≤ k)
    (h : ∀ n : Int, n = fl (val a b C * Rl.q ((10 ^ j : Int) : Rat) + Rl.q (1 / 2)) → sm 900 n → Q (.str (dgt n j))) : F_digits_of [nrm a b C, .int (j : Nat)] Q := by
  unfold F_digits_of
  placed_of0
  refine rounded_ok hj hc hs ha hb hkc hk hk1 fun n n1 n2 n3 n4 => ?_
  have h := h n n1 n4
  have l1 : (Str.ofString (toString (if n < 0 then -n else n))).length ≤ 900 := tstr_len n4
  have l2 := txt_len n4 hj
  placed_of0
  refine w_strc (by have := log2_sm n4; have := log2_sm (sm_neg n4); split <;> omega) ?_
  placed_of0
  refine w_lenS (by omega) ?_
  placed_of0
  refine w_mulS (by omega) (by omega) (by decide) ?_
  placed_of0
  · have := len_mul "0" (((j : Nat) : Int) + 1 - (Str.ofString (toString (if n < 0 then -n else n))).length) (by omega) (by decide)
    omega
  rw [show mulStr "0" (((j : Nat) : Int) + 1 - (Str.ofString (toString (if n < 0 then -n else n))).length) ++ Str.ofString (toString (if n < 0 then -n else n)) = txt n j from rfl]
  placed_of0
  have tail : ∀ fr : Str, fr = (if n < 0 then "-" else "") → sRet (eOp fCatS (eOp fCatS (eVar 4) (eSl (eVar 3) oNone (oSome (eOp fSub (eCall fLen (aCons (eVar 3) aNil)) (eVar 1))))) (eIf (eT (eOp fGt (eVar 1) (eC (.int 0)))) (eOp fCatS (eC (.str ".")) (eSl (eVar 3) (oSome (eOp fSub (eCall fLen (aCons (eVar 3) aNil)) (eVar 1))) oNone)) (eC (.str ""))))
      [.va (nrm a b C), .va (.int (j : Nat)), .va (.int n), .va (.str (txt n j)), .va (.str fr)] { nx := fun _ => Q .none, rt := Q, bk := fun _ => False, ct := fun _ => False } := by
    intro fr hfr
    have lf : fr.length ≤ 1 := by rw [hfr]; split <;> decide
    placed_of0
    refine w_lenS (by omega) ?_
    placed_of0
    have c1 := len_cut (txt n j) none (some ((txt n j).length - (j : Nat)))
    have c2 := len_cut (txt n j) (some ((txt n j).length - (j : Nat))) none
    refine w_fSlS (by omega) ?_
    placed_of0
    · omega
    placed_of0
    unfold dgt at h
    by_cases hj0 : 0 < ((j : Nat) : Int)
    · rw [decide_eq_true hj0]
      rw [if_pos hj0] at h
      placed_of0
      refine w_lenS (by omega) ?_
      placed_of0
      refine w_fSlS (by omega) ?_
      placed_of0
      · have : (Str.ofString ".").length = 1 := by decide
        omega
      placed_of0
      · have : (Str.ofString ".").length = 1 := by decide
        rw [len_app, len_app]
        omega
      rw [hfr]
      exact h
    · rw [decide_eq_false hj0]
      rw [if_neg hj0] at h
      placed_of0
      · have : (Str.ofString "").length = 0 := by decide
        rw [len_app]
        omega
      rw [hfr]
      exact h
  by_cases hn : n < 0
  · rw [decide_eq_true hn]
    kfm_turns
    exact tail _ (by rw [if_pos hn])
  · rw [decide_eq_false hn]
    kfm_turns
    exact tail _ (by rw [if_neg hn])
end

section
variable {k l m ka kb kc kd ke kf : Nat} {a b c d e f p q C E X Y x y z : Rat} {Q : D → Prop}
/-! ### how near two numbers may be -/
theorem Rl.mul_bd {a b B C : Rl} (hB : 0 ≤ B) (hC : 0 ≤ C) (h1 : -B ≤ a) (h2 : a ≤ B) (h3 : -C ≤ b) (h4 : b ≤ C) : -(B * C) ≤ a * b ∧ a * b ≤ B * C := by
  have nn : ∀ {x y : Rl}, 0 ≤ x → 0 ≤ y → 0 ≤ x * y := fun {x y} hx hy => by
    rcases Rl.le_iff.mp hx with h | h
    · rcases Rl.le_iff.mp hy with g | g
      · have := Rl.mul_pos h g; grind
      · rw [← g]; grind
    · rw [← h]; grind
  have e1 : 0 ≤ (B - a) * (C + b) := nn (by grind) (by grind)
  have e2 : 0 ≤ (B + a) * (C - b) := nn (by grind) (by grind)
  have e3 : 0 ≤ (B - a) * (C - b) := nn (by grind) (by grind)
  have e4 : 0 ≤ (B + a) * (C + b) := nn (by grind) (by grind)
  constructor <;> grind
theorem root_le4 (h0 : 0 ≤ C) (h : C ≤ 16) : Rl.sq C ≤ 4 := by
  have h1 := Rl.sq_mul h0
  have h2 := Rl.sq_nonneg C
  have h3 : Rl.q C ≤ 16 := by
    rw [show (16 : Rl) = Rl.q 16 from rfl, Rl.q_le]; exact h
  refine Classical.byContradiction fun z => ?_
  have h4 : 0 < Rl.sq C - 4 := by grind
  have := Rl.mul_pos h4 h4
  have := Rl.mul_pos h4 (show (0 : Rl) < 4 by grind)
  grind
/-- a multiple is whole -/
def Wh (D : Int) (x : Rat) : Prop := ∃ n : Int, x * D = n
theorem wh_ne {D : Int} (hD : 0 < D) (h : Wh D x) (h0 : x ≠ 0) : (1 : Rat) / D ≤ x ∨ x ≤ -(1 / (D : Rat)) := by
  obtain ⟨n, e⟩ := h
  have hq : (0 : Rat) < (D : Rat) := by
    have := Rat.intCast_lt_intCast.mpr hD
    exact this
  have hi : (1 : Rat) / D * D = 1 := Rat.div_mul_cancel (by grind)
  have n0 : n ≠ 0 := fun z => by
    rw [z] at e
    rcases Rat.mul_eq_zero.mp e with g | g
    · exact h0 g
    · grind
  rcases Int.lt_or_gt_of_ne n0 with g | g
  · right
    have : (n : Rat) ≤ ((-1 : Int) : Rat) := Rat.intCast_le_intCast.mpr (by omega)
    rw [← e] at this
    refine Rat.le_of_mul_le_mul_right (c := (D : Rat)) ?_ hq
    have h2 : ((-1 : Int) : Rat) = -1 := rfl
    rw [h2] at this
    generalize (1 : Rat) / D = u at *
    grind
  · left
    have : ((1 : Int) : Rat) ≤ (n : Rat) := Rat.intCast_le_intCast.mpr (by omega)
    rw [← e] at this
    refine Rat.le_of_mul_le_mul_right (c := (D : Rat)) ?_ hq
    have h2 : ((1 : Int) : Rat) = 1 := rfl
    rw [h2] at this
    generalize (1 : Rat) / D = u at *
    grind
/-- a small factor of what is not small -/
theorem sep_of {W V : Rl} {N : Rat} {D : Int} {B δ : Rat} (hD : 0 < D) (hN : Wh D N) (h0 : N ≠ 0) (e : W * V = Rl.q N) (hB : 0 ≤ B) (h1 : -Rl.q B ≤ V) (h2 : V ≤ Rl.q B) (hW : 0 < W) (hδ : 0 ≤ δ) (hs : δ * B * D < 1) : Rl.q δ < W := by
  refine Classical.byContradiction fun z => ?_
  have hw : W ≤ Rl.q δ := by grind
  have k := Rl.mul_bd (a := W) (b := V) (B := Rl.q δ) (C := Rl.q B) (by rw [← Rl.q_zero, Rl.q_le]; exact hδ) (by rw [← Rl.q_zero, Rl.q_le]; exact hB) (by have : (0 : Rl) ≤ Rl.q δ := by rw [← Rl.q_zero, Rl.q_le]; exact hδ
                                                                                                                                                          grind) hw h1 h2
  rw [e, ← Rl.q_mul, ← Rl.q_neg, Rl.q_le, Rl.q_le] at k
  have hq : (0 : Rat) < (D : Rat) := by
    have := Rat.intCast_lt_intCast.mpr hD
    exact this
  have hi : (1 : Rat) / D * D = 1 := Rat.div_mul_cancel (by grind)
  have h3 : δ * B < 1 / D := by
    refine Rat.lt_of_mul_lt_mul_right (c := (D : Rat)) ?_ (by grind)
    rw [hi]; exact hs
  rcases wh_ne hD hN h0 with g | g <;> grind
/-- the numbers that are drawn: small, and whole times 420 -/
structure Sm (x : Rat) : Prop where
  w : Wh 420 x
  l : -8589934592 ≤ x
  u : x ≤ 8589934592
structure Th (C : Rat) : Prop where
  n : Nsq C
  w : Wh 9 C
  u : C ≤ 16
abbrev dlt : Rat := Rat.divInt 1 (2 ^ 170)
theorem dlt_eq : dlt * ((2 ^ 170 : Int) : Rat) = 1 := by
  rw [dlt, Rat.divInt_eq_div]
  exact Rat.div_mul_cancel (by decide +kernel)
theorem dlt_pos : 0 ≤ dlt := by decide +kernel
theorem small1 : dlt * 68719476736 * ((1587600 : Int) : Rat) < 1 := by decide +kernel
theorem small2 : dlt * 2596148429267413814265248164610048 * ((1587600 * 1587600 : Int) : Rat) < 1 := by decide +kernel
theorem nsq_y (hc : Nsq C) (h : x * x - y * y * C = 0) : x = 0 ∧ y = 0 := by
  refine Classical.byContradiction fun w => ?_
  exact low_ne hc w h
theorem rl_mul_le {A B s : Rl} (hA : -B ≤ A) (hA2 : A ≤ B) (h0 : 0 ≤ B) (hs : 0 ≤ s) (hs4 : s ≤ 4) : -(B * 4) ≤ A * s ∧ A * s ≤ B * 4 := Rl.mul_bd h0 (by grind) hA hA2 (by grind) hs4
theorem q_bd (h : Sm x) : -Rl.q 8589934592 ≤ Rl.q x ∧ Rl.q x ≤ Rl.q 8589934592 := by
  rw [← Rl.q_neg, Rl.q_le, Rl.q_le]
  exact ⟨h.l, h.u⟩
theorem q_nn {r : Rat} (h : 0 ≤ r) : 0 ≤ Rl.q r := by rw [← Rl.q_zero, Rl.q_le]; exact h
theorem q_num4 (r : Rat) : Rl.q r * 4 = Rl.q (r * 4) := by rw [Rl.q_mul]; rfl
theorem sep1 (hC : Th C) (hx : Sm x) (hy : Sm y) (h : 0 < Rl.q x + Rl.q y * Rl.sq C) : Rl.q dlt < Rl.q x + Rl.q y * Rl.sq C := by
  have h0 : 0 ≤ C := by have := hC.n.1; grind
  have hm := Rl.sq_mul h0
  refine sep_of (V := Rl.q x - Rl.q y * Rl.sq C) (N := x * x - y * y * C) (D := 1587600) (B := 68719476736) (by decide) ?_ ?_ ?_ (by decide) ?_ ?_ h dlt_pos small1
  · obtain ⟨X, eX⟩ := hx.w
    obtain ⟨Y, eY⟩ := hy.w
    obtain ⟨G, eG⟩ := hC.w
    refine ⟨X * X * 9 - Y * Y * G, ?_⟩
    rw [Rat.intCast_sub, Rat.intCast_mul, Rat.intCast_mul, Rat.intCast_mul, Rat.intCast_mul, ← eX, ← eY, ← eG]
    have e1 : ((1587600 : Int) : Rat) = 1587600 := rfl
    have e2 : ((420 : Int) : Rat) = 420 := rfl
    have e3 : ((9 : Int) : Rat) = 9 := rfl
    rw [e1, e2, e3]
    grind
  · intro z
    obtain ⟨z1, z2⟩ := nsq_y hC.n z
    rw [z1, z2, Rl.q_zero] at h
    grind
  · rw [Rl.q_sub, Rl.q_mul, Rl.q_mul, Rl.q_mul, ← hm]; grind
  · have k1 := q_bd hx
    have k2 := rl_mul_le (q_bd hy).1 (q_bd hy).2 (q_nn (by decide)) (Rl.sq_nonneg C) (root_le4 h0 hC.u)
    rw [q_num4] at k2
    have e : Rl.q 8589934592 + Rl.q (8589934592 * 4) ≤ Rl.q 68719476736 := by rw [← Rl.q_add, Rl.q_le]; decide +kernel
    grind
  · have k1 := q_bd hx
    have k2 := rl_mul_le (q_bd hy).1 (q_bd hy).2 (q_nn (by decide)) (Rl.sq_nonneg C) (root_le4 h0 hC.u)
    rw [q_num4] at k2
    have e : Rl.q 8589934592 + Rl.q (8589934592 * 4) ≤ Rl.q 68719476736 := by rw [← Rl.q_add, Rl.q_le]; decide +kernel
    grind
theorem sep2 (hC : Th C) (hE : Th E) (hCE : Nsq (E * C)) (hx : Sm x) (hf : Sm f) (hb : Sm b) (hf0 : f ≠ 0) (hb0 : b ≠ 0) (h : 0 < Rl.q x + Rl.q f * Rl.sq E - Rl.q b * Rl.sq C) : Rl.q dlt < Rl.q x + Rl.q f * Rl.sq E - Rl.q b * Rl.sq C := by
  have h0 : 0 ≤ C := by have := hC.n.1; grind
  have h1 : 0 ≤ E := by have := hE.n.1; grind
  have hm := Rl.sq_mul h0
  have hm1 := Rl.sq_mul h1
  have k1 := q_bd hx
  have k2 := rl_mul_le (q_bd hf).1 (q_bd hf).2 (q_nn (by decide)) (Rl.sq_nonneg E) (root_le4 h1 hE.u)
  have k3 := rl_mul_le (q_bd hb).1 (q_bd hb).2 (q_nn (by decide)) (Rl.sq_nonneg C) (root_le4 h0 hC.u)
  rw [q_num4] at k2 k3
  have e : Rl.q 8589934592 + Rl.q (8589934592 * 4) + Rl.q (8589934592 * 4) ≤ Rl.q 137438953472 := by rw [← Rl.q_add, ← Rl.q_add, Rl.q_le]; decide +kernel
  have b1 : -Rl.q 137438953472 ≤ Rl.q x + Rl.q f * Rl.sq E + Rl.q b * Rl.sq C ∧ Rl.q x + Rl.q f * Rl.sq E + Rl.q b * Rl.sq C ≤ Rl.q 137438953472 := by constructor <;> grind
  have b2 : -Rl.q 137438953472 ≤ Rl.q x - Rl.q f * Rl.sq E - Rl.q b * Rl.sq C ∧ Rl.q x - Rl.q f * Rl.sq E - Rl.q b * Rl.sq C ≤ Rl.q 137438953472 := by constructor <;> grind
  have b3 : -Rl.q 137438953472 ≤ Rl.q x - Rl.q f * Rl.sq E + Rl.q b * Rl.sq C ∧ Rl.q x - Rl.q f * Rl.sq E + Rl.q b * Rl.sq C ≤ Rl.q 137438953472 := by constructor <;> grind
  have q0 : 0 ≤ Rl.q 137438953472 := q_nn (by decide)
  have b4 := Rl.mul_bd q0 q0 b1.1 b1.2 b2.1 b2.2
  rw [← Rl.q_mul] at b4
  have b5 := Rl.mul_bd (q_nn (r := 137438953472 * 137438953472) (by decide +kernel)) q0 b4.1 b4.2 b3.1 b3.2
  rw [← Rl.q_mul] at b5
  refine sep_of (V := (Rl.q x + Rl.q f * Rl.sq E + Rl.q b * Rl.sq C) * (Rl.q x - Rl.q f * Rl.sq E - Rl.q b * Rl.sq C) * (Rl.q x - Rl.q f * Rl.sq E + Rl.q b * Rl.sq C))
    (N := (x * x + f * f * E - b * b * C) * (x * x + f * f * E - b * b * C) - 4 * (x * x) * (f * f * E)) (D := 1587600 * 1587600) (B := 2596148429267413814265248164610048) (by decide) ?_ ?_ ?_ (by decide) ?_ ?_ h dlt_pos small2
  · obtain ⟨X, eX⟩ := hx.w
    obtain ⟨F, eF⟩ := hf.w
    obtain ⟨B, eB⟩ := hb.w
    obtain ⟨c, ec⟩ := hC.w
    obtain ⟨g, eg⟩ := hE.w
    refine ⟨(X * X * 9 + F * F * g - B * B * c) * (X * X * 9 + F * F * g - B * B * c) - 4 * (X * X) * (F * F * g) * 9, ?_⟩
    simp only [Rat.intCast_sub, Rat.intCast_add, Rat.intCast_mul, ← eX, ← eF, ← eB, ← ec, ← eg]
    have e1 : ((1587600 : Int) : Rat) = 1587600 := rfl
    have e2 : ((420 : Int) : Rat) = 420 := rfl
    have e3 : ((9 : Int) : Rat) = 9 := rfl
    have e4 : ((4 : Int) : Rat) = 4 := rfl
    rw [e1, e2, e3, e4]
    grind
  · intro z
    refine hCE.2 ((x * x - f * f * E - b * b * C) / (2 * f * b)) ?_
    have hn : 2 * f * b ≠ 0 := fun w => by
      rcases Rat.mul_eq_zero.mp w with w | w
      · rcases Rat.mul_eq_zero.mp w with w | w
        · exact absurd w (by decide)
        · exact hf0 w
      · exact hb0 w
    have e2 : (x * x - f * f * E - b * b * C) / (2 * f * b) * (2 * f * b) = x * x - f * f * E - b * b * C := Rat.div_mul_cancel hn
    generalize (x * x - f * f * E - b * b * C) / (2 * f * b) = u at *
    have e3 : (u * u - E * C) * ((2 * f * b) * (2 * f * b)) = 0 := by
      have : (u * (2 * f * b)) * (u * (2 * f * b)) = (x * x - f * f * E - b * b * C) * (x * x - f * f * E - b * b * C) := by rw [e2]
      grind
    rcases Rat.mul_eq_zero.mp e3 with w | w
    · grind
    · rcases Rat.mul_eq_zero.mp w with w | w <;> exact (hn w).elim
  · simp only [Rl.q_sub, Rl.q_add, Rl.q_mul, ← hm, ← hm1]
    have : Rl.q 4 = 4 := rfl
    rw [this]
    grind
  · have e : (137438953472 * 137438953472 * 137438953472 : Rat) = 2596148429267413814265248164610048 := by decide +kernel
    rw [e] at b5
    exact b5.1
  · have e : (137438953472 * 137438953472 * 137438953472 : Rat) = 2596148429267413814265248164610048 := by decide +kernel
    rw [e] at b5
    exact b5.2
end

section
variable {k l m ka kb kc kd ke kf : Nat} {a b c d e f p q C E X Y x y z : Rat} {Q : D → Prop}
/-- half as small: sums of two of these are small -/
structure Sh (x : Rat) : Prop where
  w : Wh 420 x
  l : -4294967296 ≤ x
  u : x ≤ 4294967296
theorem Sh.sub (h : Sh x) (g : Sh y) : Sm (x - y) := by
  obtain ⟨⟨X, eX⟩, h1, h2⟩ := h
  obtain ⟨⟨Y, eY⟩, g1, g2⟩ := g
  refine ⟨⟨X - Y, ?_⟩, by grind, by grind⟩
  rw [Rat.intCast_sub, ← eX, ← eY]; grind
theorem Sh.sm (h : Sh x) : Sm x := ⟨h.w, by have := h.l; grind, by have := h.u; grind⟩
theorem Sh.neg (h : Sh x) : Sh (-x) := by
  obtain ⟨⟨X, eX⟩, h1, h2⟩ := h
  refine ⟨⟨-X, ?_⟩, by grind, by grind⟩
  rw [Rat.intCast_neg, ← eX]; grind
theorem Sh.zero : Sh 0 := ⟨⟨0, by decide +kernel⟩, by decide +kernel, by decide +kernel⟩
theorem sep (hC : Th C) (hE : Th E) (hCE : C = E ∨ Nsq (E * C)) (ha : Sh a) (hb : Sh b) (hd : Sh d) (hf : Sh f) (h : val a b C < val d f E) : val a b C + Rl.q dlt < val d f E := by
  have e : val d f E - val a b C = Rl.q (d - a) + Rl.q f * Rl.sq E - Rl.q b * Rl.sq C := by unfold val; rw [Rl.q_sub]; grind
  suffices Rl.q dlt < Rl.q (d - a) + Rl.q f * Rl.sq E - Rl.q b * Rl.sq C by grind
  have h' : 0 < Rl.q (d - a) + Rl.q f * Rl.sq E - Rl.q b * Rl.sq C := by grind
  by_cases b0 : b = 0
  · have e2 : Rl.q (d - a) + Rl.q f * Rl.sq E - Rl.q b * Rl.sq C = Rl.q (d - a) + Rl.q f * Rl.sq E := by rw [b0, Rl.q_zero]; grind
    rw [e2] at h' ⊢
    exact sep1 hE (hd.sub ha) hf.sm h'
  by_cases f0 : f = 0
  · have e2 : Rl.q (d - a) + Rl.q f * Rl.sq E - Rl.q b * Rl.sq C = Rl.q (d - a) + Rl.q (-b) * Rl.sq C := by rw [f0, Rl.q_zero, Rl.q_neg]; grind
    rw [e2] at h' ⊢
    exact sep1 hC (hd.sub ha) hb.neg.sm h'
  rcases hCE with hCE | hCE
  · have e2 : Rl.q (d - a) + Rl.q f * Rl.sq E - Rl.q b * Rl.sq C = Rl.q (d - a) + Rl.q (f - b) * Rl.sq E := by rw [hCE, Rl.q_sub f b]; grind
    rw [e2] at h' ⊢
    exact sep1 hE (hd.sub ha) (hf.sub hb) h'
  · exact sep2 hC hE hCE (hd.sub ha) hf.sm hb.sm f0 b0 h'
/-! ### a fraction between two numbers -/
noncomputable def fnd (v : Rl) (t : Nat) : Rat := Rat.divInt (fl (v * Rl.q ((2 ^ t : Int) : Rat)) + 1) (2 ^ t)
theorem pow2_ne (t : Nat) : (2 ^ t : Int) ≠ 0 := by
  have := Int.pow_pos (n := 2) (m := t) (by decide)
  omega
theorem pow2_q (t : Nat) : (0 : Rat) < ((2 ^ t : Int) : Rat) := by
  have := Rat.intCast_lt_intCast.mpr (Int.pow_pos (n := 2) (m := t) (by decide))
  exact this
theorem fnd_le {v : Rl} {t : Nat} {n : Int} (hn : n = fl (v * Rl.q ((2 ^ t : Int) : Rat))) (h1 : Rl.q n ≤ v * Rl.q ((2 ^ t : Int) : Rat)) : Rl.q (fnd v t) * Rl.q ((2 ^ t : Int) : Rat) ≤ v * Rl.q ((2 ^ t : Int) : Rat) + 1 := by
  have e : fnd v t * ((2 ^ t : Int) : Rat) = ((n + 1 : Int) : Rat) := by
    unfold fnd
    rw [← hn, Rat.divInt_eq_div]
    exact Rat.div_mul_cancel (by have := pow2_q t; grind)
  rw [← Rl.q_mul, e, Rat.intCast_add, Rl.q_add]
  have : Rl.q ((1 : Int) : Rat) = 1 := rfl
  rw [this]
  grind
/-- some doubling is enough -/
theorem fnd_170 {v w : Rl} {n : Int} (hn : n = fl (v * Rl.q ((2 ^ 170 : Int) : Rat))) (h1 : Rl.q n ≤ v * Rl.q ((2 ^ 170 : Int) : Rat)) (h : v + Rl.q dlt < w) : Rl.q (fnd v 170) < w := by
  have k := fnd_le hn h1
  have e : Rl.q dlt * Rl.q ((2 ^ 170 : Int) : Rat) = 1 := by rw [← Rl.q_mul, dlt_eq]; rfl
  have hp : 0 < Rl.q ((2 ^ 170 : Int) : Rat) := by
    have := pow2_q 170
    rw [← Rl.q_zero, Rl.q_lt]; exact this
  refine Classical.byContradiction fun z => ?_
  have g : 0 < Rl.q (fnd v 170) - v - Rl.q dlt := by grind
  have := Rl.mul_pos g hp
  generalize Rl.q ((2 ^ 170 : Int) : Rat) = T at *
  grind
theorem sm_pow2 (t : Nat) : sm (t + 1) (2 ^ t : Int) := by
  unfold sm
  have e : (2 ^ t : Int) = ((2 ^ t : Nat) : Int) := by rw [Int.natCast_pow]; rfl
  rw [e, Int.natAbs_natCast, Nat.pow_succ]
  have := Nat.one_le_two_pow (n := t)
  omega
set_option hygiene false
local macro_rules | `(tactic| kcj_in) => `(tactic| (
    unfold whileW
    obtain ⟨nx, rt', bk, ct⟩ := P
    placed_of0
    have hs2 : sm 171 (2 ^ t : Int) := sm_mono (sm_pow2 t) (by omega)
    have hib := bz_int hs2 (by decide)
    refine sp_whole ?_
    placed_of0
    refine sp_by_fraction hC bC ha hb hib (by decide) (by decide) ?_
    placed_of0
    refine floor_nrm hC bC (ka := 232) (kb := 232) (bz_mul ha hib) (bz_mul hb hib) (by decide) fun n n1 n2 n3 n4 => ?_
    rw [val_mul] at n1 n2 n3
    placed_of0
    refine fraction_ok (pow2_ne t) hs2 (by decide) ?_
    rw [show Rat.divInt (n + 1) (2 ^ t) = fnd (val a b C) t by unfold fnd; rw [← n1]]
    have hbf : bz 709 (fnd (val a b C) t) := by
      unfold fnd
      rw [← n1]
      exact bz_div (pow2_ne t) (sm_mono (sm_add n4 (sm_mono (k := 1) (by unfold sm; decide) (by decide))) (by decide)) (sm_mono hs2 (by decide))
    placed_of1
    rw [cmp_rat (trd_nonneg (by have := hE.1; grind)), val_trd]
    placed_of0
    by_cases hcm : Rl.q (fnd (val a b C) t) < val d f E
    case' pos => (rw [decide_eq_true (by rw [sr_lt]; grind)]; placed_of0)
    case' neg => (rw [decide_eq_false (by rw [sr_lt]; grind)]; placed_of0; (focus exact cmul hs2 sm_2 (by decide)); placed_of0)))
set_option hygiene true
theorem between_loop (hC : Nsq C) (bC : bz 4 C) (hE : Nsq E) (bE : bz 4 E) (ha : bz 61 a) (hb : bz 61 b) (hd : bz 61 d) (hf : bz 61 f) {T : Nat} (hT : T ≤ 170) (h1 : Rl.q (fnd (val a b C) T) < val d f E) (h2 : ∀ t, t < T → ¬ Rl.q (fnd (val a b C) t) < val d f E) :
    ∀ (r t : Nat) (s3 s4 : Sl) (P : Po), t + r = T → P.rt (dr (fnd (val a b C) T)) → whileW (eT (eC (.bool true))) (sSeq (sAsg (eOp fAdd (eCallN 1 F_floor_of (aCons (eCallN 2 F_by_fraction (aCons (eVar 0) (aCons (eCallN 1 F_whole (aCons (eVar 2) aNil)) aNil))) aNil)) (eC (.int 1))) (mgName 3)) (sSeq (sAsg (eCallN 2 F_fraction (aCons (eVar 3) (aCons (eVar 2) aNil))) (mgName 4)) (sSeq (sIf (eT (eOp fLt (eCallN 2 F_compare (aCons (eCallN 1 F_plain (aCons (eVar 4) aNil)) (aCons (eVar 1) aNil))) (eC (.int 0)))) (sRet (eVar 4)) sNext) (sAug 2 fMul (eC (.int 2)))))) (r + 1)
      [.va (nrm a b C), .va (nrm d f E), .va (.int (2 ^ t)), s3, s4] P := by
  intro r
  induction r with
  | zero =>
    intro t s3 s4 P ht hP
    kcj_in
    · have e : t = T := by omega
      rw [e] at hcm
      exact (hcm h1).elim
    · have e : t = T := by omega
      rw [← e] at hP
      exact hP
  | succ r ih =>
    intro t s3 s4 P ht hP
    kcj_in
    · have e2 : (2 ^ t * 2 : Int) = 2 ^ (t + 1) := by rw [Int.pow_succ]
      have := ih (t + 1) (.va (.int (n + 1))) (.va (dr (fnd (val a b C) t))) ⟨nx, rt', bk, ct⟩ (by omega) hP
      rw [← e2] at this
      exact this
    · exact (h2 t (by omega) hcm).elim
end
set_option hygiene false
local macro_rules | `(tactic| kcj_in) => `(tactic| (
    unfold whileW
    obtain ⟨nx, rt', bk, ct⟩ := P
    placed_of0
    have hs2 : sm 171 (2 ^ t : Int) := sm_mono (sm_pow2 t) (by omega)
    have hib := bz_int hs2 (by decide)
    refine sp_whole ?_
    placed_of0
    refine sp_by_fraction hC bC ha hb hib (by decide) (by decide) ?_
    placed_of0
    refine floor_nrm hC bC (ka := 232) (kb := 232) (bz_mul ha hib) (bz_mul hb hib) (by decide) fun n n1 n2 n3 n4 => ?_
    rw [val_mul] at n1 n2 n3
    placed_of0
    refine fraction_ok (pow2_ne t) hs2 (by decide) ?_
    rw [show Rat.divInt (n + 1) (2 ^ t) = fnd (val a b C) t by unfold fnd; rw [← n1]]
    have hbf : bz 709 (fnd (val a b C) t) := by
      unfold fnd
      rw [← n1]
      exact bz_div (pow2_ne t) (sm_mono (sm_add n4 (sm_mono (k := 1) (by unfold sm; decide) (by decide))) (by decide)) (sm_mono hs2 (by decide))
    placed_of1
    rw [cmp_rat (trd_nonneg (by have := hE.1; grind)), val_trd]
    placed_of0
    by_cases hcm : Rl.q (fnd (val a b C) t) < val d f E
    case' pos => (rw [decide_eq_true (by rw [sr_lt]; grind)]; placed_of0)
    case' neg => (rw [decide_eq_false (by rw [sr_lt]; grind)]; placed_of0; (focus exact cmul hs2 sm_2 (by decide)); placed_of0)))
set_option hygiene true

section
variable {k l m ka kb kc kd ke kf : Nat} {a b c d e f p q C E X Y x y z : Rat} {Q : D → Prop}
theorem floor_ex {v : Rl} : ∀ (n : Nat) (lo : Int), Rl.q lo ≤ v → v < Rl.q ((lo + n : Int) : Rat) → ∃ j : Int, Rl.q j ≤ v ∧ v < Rl.q ((j + 1 : Int) : Rat)
  | 0, lo, h1, h2 => by
    rw [show lo + ((0 : Nat) : Int) = lo by omega] at h2
    grind
  | n + 1, lo, h1, h2 => by
    by_cases h : v < Rl.q ((lo + 1 : Int) : Rat)
    · exact ⟨lo, h1, h⟩
    · refine floor_ex n (lo + 1) (by grind) ?_
      rw [show lo + 1 + (n : Int) = lo + ((n + 1 : Nat) : Int) by omega]
      exact h2
theorem fl_of {v : Rl} {B : Int} (h1 : Rl.q ((-B : Int) : Rat) ≤ v) (h2 : v < Rl.q B) : Rl.q (fl v) ≤ v ∧ v < Rl.q ((fl v + 1 : Int) : Rat) := by
  have hB : -B < B := by
    have : Rl.q ((-B : Int) : Rat) < Rl.q B := by grind
    rw [Rl.q_lt, Rat.intCast_lt_intCast] at this
    exact this
  obtain ⟨j, j1, j2⟩ := floor_ex (v := v) (B - -B).toNat (-B) h1 (by rw [show -B + ((B - -B).toNat : Int) = B by omega]; exact h2)
  have := fl_eq j1 j2
  rw [← this]
  exact ⟨j1, j2⟩
theorem val_bd (hC : Th C) (ha : Sh a) (hb : Sh b) : -Rl.q 42949672960 ≤ val a b C ∧ val a b C ≤ Rl.q 42949672960 := by
  have h0 : 0 ≤ C := by have := hC.n.1; grind
  have k1 := q_bd ha.sm
  have k2 := rl_mul_le (q_bd hb.sm).1 (q_bd hb.sm).2 (q_nn (by decide)) (Rl.sq_nonneg C) (root_le4 h0 hC.u)
  rw [q_num4] at k2
  have e : Rl.q 8589934592 + Rl.q (8589934592 * 4) ≤ Rl.q 42949672960 := by rw [← Rl.q_add, Rl.q_le]; decide +kernel
  unfold val
  constructor <;> grind
theorem fl_val (hC : Th C) (ha : Sh a) (hb : Sh b) (t : Nat) : Rl.q (fl (val a b C * Rl.q ((2 ^ t : Int) : Rat))) ≤ val a b C * Rl.q ((2 ^ t : Int) : Rat) := by
  have h := val_bd hC ha hb
  have hp : 0 < Rl.q ((2 ^ t : Int) : Rat) := by
    rw [← Rl.q_zero, Rl.q_lt]; exact pow2_q t
  have k := Rl.mul_bd (q_nn (by decide)) (Rl.le_iff.mpr (.inl hp)) h.1 h.2 (show -Rl.q ((2 ^ t : Int) : Rat) ≤ Rl.q ((2 ^ t : Int) : Rat) by grind) (show Rl.q ((2 ^ t : Int) : Rat) ≤ Rl.q ((2 ^ t : Int) : Rat) by grind)
  rw [← Rl.q_mul] at k
  have e : (42949672960 : Rat) * ((2 ^ t : Int) : Rat) = ((42949672960 * 2 ^ t : Int) : Rat) := by
    rw [Rat.intCast_mul]; rfl
  rw [e] at k
  refine (fl_of (B := 42949672960 * 2 ^ t + 1) ?_ ?_).1
  · have : Rl.q ((-(42949672960 * 2 ^ t + 1) : Int) : Rat) < -Rl.q ((42949672960 * 2 ^ t : Int) : Rat) := by
      rw [← Rl.q_neg, Rl.q_lt, ← Rat.intCast_neg, Rat.intCast_lt_intCast]; omega
    grind
  · have : Rl.q ((42949672960 * 2 ^ t : Int) : Rat) < Rl.q ((42949672960 * 2 ^ t + 1 : Int) : Rat) := by
      rw [Rl.q_lt, Rat.intCast_lt_intCast]; omega
    grind
theorem least (P : Nat → Prop) : ∀ n, P n → ∃ T, T ≤ n ∧ P T ∧ ∀ t, t < T → ¬ P t := by
  intro n
  induction n using Nat.strongRecOn with
  | _ n ih =>
    intro h
    by_cases g : ∃ t, t < n ∧ P t
    · obtain ⟨t, t1, t2⟩ := g
      obtain ⟨T, a1, a2, a3⟩ := ih t t1 t2
      exact ⟨T, by omega, a2, a3⟩
    · exact ⟨n, Nat.le_refl _, h, fun t ht z => g ⟨t, ht, z⟩⟩
theorem fnd_least (hC : Th C) (hE : Th E) (hCE : C = E ∨ Nsq (E * C)) (ha : Sh a) (hb : Sh b) (hd : Sh d) (hf : Sh f) (h : val a b C < val d f E) :
    ∃ T, T ≤ 170 ∧ Rl.q (fnd (val a b C) T) < val d f E ∧ ∀ t, t < T → ¬ Rl.q (fnd (val a b C) t) < val d f E :=
  least (fun t => Rl.q (fnd (val a b C) t) < val d f E) 170 (fnd_170 rfl (fl_val hC ha hb 170) (sep hC hE hCE ha hb hd hf h))
theorem between_ok (hC : Nsq C) (bC : bz 4 C) (hE : Nsq E) (bE : bz 4 E) (ha : bz 61 a) (hb : bz 61 b) (hd : bz 61 d) (hf : bz 61 f) {T : Nat} (hT : T ≤ 170) (h1 : Rl.q (fnd (val a b C) T) < val d f E) (h2 : ∀ t, t < T → ¬ Rl.q (fnd (val a b C) t) < val d f E)
    (h : Q (dr (fnd (val a b C) T))) : F_between [nrm a b C, nrm d f E] Q := by
  unfold F_between
  placed_of0
  exact ⟨T + 1, between_loop hC bC hE bE ha hb hd hf hT h1 h2 T 0 _ _ _ (by omega) h⟩
end

section
variable {k l m ka kb kc kd ke kf : Nat} {a b c d e f p q C E X Y x y z : Rat} {Q : D → Prop}
theorem Pt.sh (h : Pt p) : Wh 420 p ∧ -500000000 ≤ p ∧ p ≤ 500000000 := by
  obtain ⟨u, l, h1, h2, h3, h4, rfl⟩ := h
  have u1 : ((-500000000 : Int) : Rat) ≤ (u : Rat) := Rat.intCast_le_intCast.mpr (by omega)
  have u2 : (u : Rat) ≤ ((500000000 : Int) : Rat) := Rat.intCast_le_intCast.mpr (by omega)
  have e1 : ((-500000000 : Int) : Rat) = -500000000 := rfl
  have e2 : ((500000000 : Int) : Rat) = 500000000 := rfl
  rw [e1] at u1
  rw [e2] at u2
  have key : ∀ (r : Int) (x : Rat), x * (r : Rat) = u → 0 < r → ∀ s : Int, r * s = 420 → Wh 420 x ∧ -500000000 ≤ x ∧ x ≤ 500000000 := by
    intro r x hx hr s hs
    have r1 : ((1 : Int) : Rat) ≤ (r : Rat) := Rat.intCast_le_intCast.mpr (by omega)
    have e3 : ((1 : Int) : Rat) = 1 := rfl
    rw [e3] at r1
    refine ⟨⟨u * s, ?_⟩, ?_, ?_⟩
    · rw [Rat.intCast_mul, ← hx, ← hs, Rat.intCast_mul]; grind
    · refine Classical.byContradiction fun z => ?_
      have : 0 ≤ (-x) * ((r : Rat) - 1) := Rat.mul_nonneg (by grind) (by grind)
      grind
    · refine Classical.byContradiction fun z => ?_
      have : 0 ≤ x * ((r : Rat) - 1) := Rat.mul_nonneg (by grind) (by grind)
      grind
  have hl : (l : Rat) ≠ 0 := fun z => by
    rw [Rat.intCast_eq_zero_iff] at z
    omega
  have hx : Rat.divInt u l * (l : Rat) = u := by
    rw [Rat.divInt_eq_div]; exact Rat.div_mul_cancel hl
  have hc : l = 1 ∨ l = 2 ∨ l = 3 ∨ l = 4 ∨ l = 5 ∨ l = 6 ∨ l = 7 := by omega
  rcases hc with rfl | rfl | rfl | rfl | rfl | rfl | rfl
  · exact key 1 _ hx (by decide) 420 (by decide)
  · exact key 2 _ hx (by decide) 210 (by decide)
  · exact key 3 _ hx (by decide) 140 (by decide)
  · exact key 4 _ hx (by decide) 105 (by decide)
  · exact key 5 _ hx (by decide) 84 (by decide)
  · exact key 6 _ hx (by decide) 70 (by decide)
  · exact key 7 _ hx (by decide) 60 (by decide)
theorem sh_a {p p' : Rat} (h1 : Pt p) (h2 : Pt p') (h : a = p ∨ a = p + 2 * p') : Sh a := by
  obtain ⟨w1, l1, u1⟩ := h1.sh
  obtain ⟨w2, l2, u2⟩ := h2.sh
  rcases h with rfl | rfl
  · exact ⟨w1, by grind, by grind⟩
  · obtain ⟨n, hn⟩ := w1
    obtain ⟨m, hm⟩ := w2
    refine ⟨⟨n + 2 * m, ?_⟩, by grind, by grind⟩
    rw [Rat.intCast_add, Rat.intCast_mul, ← hn, ← hm]
    have : ((2 : Int) : Rat) = 2 := rfl
    rw [this]; grind
theorem sh_b {p' : Rat} (h2 : Pt p') (h : b = p' ∨ b = 0) : Sh b := by
  obtain ⟨w2, l2, u2⟩ := h2.sh
  rcases h with rfl | rfl
  · exact ⟨w2, by grind, by grind⟩
  · exact Sh.zero
theorem th_of (h : Nsq C) (hw : ∃ n : Int, C * ((9 : Int) : Rat) = n) (hu : C ≤ 16) : Th C := ⟨h, hw, hu⟩
theorem th_2 : Th 2 := th_of nsq_2 ⟨18, by decide +kernel⟩ (by decide)
theorem th_3 : Th 3 := th_of cok_3.n ⟨27, by decide +kernel⟩ (by decide)
theorem th_10 : Th 10 := th_of cok_10.n ⟨90, by decide +kernel⟩ (by decide)
theorem th_11 : Th 11 := th_of cok_11.n ⟨99, by decide +kernel⟩ (by decide)
theorem th_59 : Th (dv 5 9) := th_of cok_59.n ⟨5, by decide +kernel⟩ (by decide +kernel)
def R1 (c : Rat) : Prop := c = 2 ∨ c = 3 ∨ c = 10
def R2 (c : Rat) : Prop := c = 2 ∨ c = dv 5 9 ∨ c = 11
theorem list1 : ∀ d ∈ [PyData.tuple [.int 2, .int 1], .tuple [.int 3, .int 1], .tuple [.int 10, .int 1]], ∃ c C, d = dr c ∧ Cok c C ∧ R1 c := by
  intro d hd
  simp only [List.mem_cons, List.not_mem_nil, or_false] at hd
  rcases hd with rfl | rfl | rfl
  · exact ⟨2, 2, rfl, cok_2, .inl rfl⟩
  · exact ⟨3, 3, rfl, cok_3, .inr (.inl rfl)⟩
  · exact ⟨10, 10, rfl, cok_10, .inr (.inr rfl)⟩
theorem list2 : ∀ d ∈ [PyData.tuple [.int 2, .int 1], .tuple [.int 5, .int 9], .tuple [.int 11, .int 1]], ∃ c C, d = dr c ∧ Cok c C ∧ R2 c := by
  intro d hd
  simp only [List.mem_cons, List.not_mem_nil, or_false] at hd
  rcases hd with rfl | rfl | rfl
  · exact ⟨2, 2, rfl, cok_2, .inl rfl⟩
  · exact ⟨dv 5 9, _, rfl, cok_59, .inr (.inl rfl)⟩
  · exact ⟨11, 11, rfl, cok_11, .inr (.inr rfl)⟩
theorem r1_th (hc : Cok c C) (h : R1 c) : Th C ∧ (C = 2 ∨ C = 3 ∨ C = 10) := by
  have e : C = c := by
    rcases hc.kind with e | e | e
    · exact e
    · rw [e] at h; rcases h with h | h | h <;> exact absurd h (by decide)
    · rw [e] at h; rcases h with h | h | h <;> exact absurd h (by decide)
  rw [e]
  rcases h with rfl | rfl | rfl
  · exact ⟨th_2, .inl rfl⟩
  · exact ⟨th_3, .inr (.inl rfl)⟩
  · exact ⟨th_10, .inr (.inr rfl)⟩
theorem r2_th (hc : Cok c C) (h : R2 c) : Th C ∧ (C = 2 ∨ C = dv 5 9 ∨ C = 11) := by
  have e : C = c := by
    rcases hc.kind with e | e | e
    · exact e
    · rw [e] at h; rcases h with h | h | h <;> exact absurd h (by decide +kernel)
    · rw [e] at h; rcases h with h | h | h <;> exact absurd h (by decide +kernel)
  rw [e]
  rcases h with rfl | rfl | rfl
  · exact ⟨th_2, .inl rfl⟩
  · exact ⟨th_59, .inr (.inl rfl)⟩
  · exact ⟨th_11, .inr (.inr rfl)⟩
theorem ce_ok (h1 : C = 2 ∨ C = 3 ∨ C = 10) (h2 : E = 2 ∨ E = dv 5 9 ∨ E = 11) : C = E ∨ Nsq (E * C) := by
  rcases h1 with rfl | rfl | rfl <;> rcases h2 with rfl | rfl | rfl
  · exact .inl rfl
  · exact .inr (nsq_of (k := 3) (by decide +kernel) (by decide +kernel) (by decide +kernel))
  · exact .inr (nsq_of (k := 4) (by decide +kernel) (by decide +kernel) (by decide +kernel))
  · exact .inr (nsq_of (k := 2) (by decide +kernel) (by decide +kernel) (by decide +kernel))
  · exact .inr (nsq_of (k := 2) (by decide +kernel) (by decide +kernel) (by decide +kernel))
  · exact .inr (nsq_of (k := 5) (by decide +kernel) (by decide +kernel) (by decide +kernel))
  · exact .inr (nsq_of (k := 4) (by decide +kernel) (by decide +kernel) (by decide +kernel))
  · exact .inr (nsq_of (k := 7) (by decide +kernel) (by decide +kernel) (by decide +kernel))
  · exact .inr (nsq_of (k := 10) (by decide +kernel) (by decide +kernel) (by decide +kernel))
end

section
variable {k l m ka kb kc kd ke kf : Nat} {a b c d e f p q C E X Y x y z : Rat} {Q : D → Prop}
theorem unit_loop {s0 s1 s2 s3 s4 s5 s6 r1 r2 r3 r4 r5 r6 r7 r8 : Sl} : ∀ (j : Nat) (s : Sl) (u : Int) (P : Po) (kk : Nat), sm kk u → kk + 4 * j < 1000 → (∀ s', P.nx [s0, s1, s2, s3, s4, s5, s6, .va (.int (u * 10 ^ j)), s', r1, r2, r3, r4, r5, r6, r7, r8]) →
    ∀ o : Nat, forW (mgName 8) (sAsg (eOp fMul (eVar 7) (eC (.int 10))) (mgName 7)) ((List.range' o j).map fun t : Nat => PyData.int (0 + (t : Int))) [s0, s1, s2, s3, s4, s5, s6, .va (.int u), s, r1, r2, r3, r4, r5, r6, r7, r8] P
  | 0, s, u, P, kk, _, _, h, o => by
    obtain ⟨nx, rt', bk, ct⟩ := P
    have := h s
    rw [Int.pow_zero, Int.mul_one] at this
    exact this
  | j + 1, s, u, P, kk, hsc, hk, h, o => by
    obtain ⟨nx, rt', bk, ct⟩ := P
    rw [List.range'_succ, List.map_cons]
    placed_of0
    · exact cmul hsc (show sm 4 10 by unfold sm; decide) (by omega)
    placed_of0
    refine unit_loop j _ (u * 10) _ (kk + 4) (sm_mul hsc (show sm 4 10 by unfold sm; decide)) (by omega) (fun s' => ?_) (o + 1)
    have := h s'
    rw [show u * 10 * 10 ^ j = u * 10 ^ (j + 1) by rw [Int.pow_succ]; grind]
    exact this
theorem dr_inv {r : Int} (hr : 0 < r) : PyData.tuple [.int 1, .int r] = dr (Rat.divInt 1 r) := by
  rw [← dr_of (g := 1) (by omega) (by rw [Int.one_gcd]; rfl) (by omega), Int.fdiv_one, Int.fdiv_one]
theorem div_q {n r : Int} (hr : 0 < r) : Rl.q (Rat.divInt n r) * Rl.q r = Rl.q n := by
  rw [← Rl.q_mul, Rat.divInt_eq_div, Rat.div_mul_cancel]
  intro z
  rw [Rat.intCast_eq_zero_iff] at z
  omega
theorem q_posI {r : Int} (hr : 0 < r) : 0 < Rl.q r := by
  rw [← Rl.q_zero, Rl.q_lt]
  exact Rat.intCast_lt_intCast.mpr hr
theorem le_of_mul {A B r : Rl} (hr : 0 < r) (h : A * r ≤ B * r) : A ≤ B := by
  refine Classical.byContradiction fun z => ?_
  have := Rl.mul_pos (show 0 < A - B by grind) hr
  grind
theorem lt_of_mul {A B r : Rl} (hr : 0 < r) (h : A * r < B * r) : A < B := by
  refine Classical.byContradiction fun z => ?_
  rcases Rl.le_iff.mp (show B ≤ A by grind) with g | g
  · have := Rl.mul_pos (show 0 < A - B by grind) hr
    grind
  · rw [g] at h; grind
theorem w_eIf_join {t : En → M Bool} {m n : En → M D} {ρ : En} (y : D) (h : ∀ Q' : D → Prop, Q' y → eIf t m n ρ Q') (q : Q y) : eIf t m n ρ Q := h Q q
theorem w_iteC {bb : Bool} {x y z : D} {ρ ρ' : En} {K : D → Prop} (h : (if bb = true then x else y) = z) (q : K z) : if bb = true then eC x ρ K else eC y ρ' K := by
  subst h
  cases bb
  · exact q
  · exact q
theorem eqv_str (x : Str) : PyData.eqv (.str x) (.str x) = true := by
  show (x == x) = true
  exact beq_self_eq_true x
theorem lbetween_loop (hC : Nsq C) (bC : bz 4 C) (hE : Nsq E) (bE : bz 4 E) (ha : bz 61 a) (hb : bz 61 b) (hd : bz 61 d) (hf : bz 61 f) {T : Nat} (hT : T ≤ 170) (h1 : Rl.q (fnd (val a b C) T) < val d f E) (h2 : ∀ t, t < T → ¬ Rl.q (fnd (val a b C) t) < val d f E) {s0 s1 s2 s3 s5 s6 s7 s8 s9 s12 s13 : Sl} :
    ∀ (ds : List D) (t : Nat) (s15 s16 : Sl) (P : Po), t ≤ T → T - t < ds.length → P.rt (.bool true) →
    forW (mgName 15) (sSeq (sAsg (eCallN 2 F__law_frac (aCons (eOp fAdd (eCallN 1 F_floor_of (aCons (eCallN 2 F_by_fraction (aCons (eVar 10) (aCons (eTup (aCons (eVar 4) (aCons (eC (.int 1)) aNil))) aNil))) aNil)) (eC (.int 1))) (aCons (eVar 4) aNil))) (mgName 16)) (sSeq (sIf (eT (eOp fLt (eCallN 2 F__law_compare (aCons (eTup (aCons (eVar 16) (aCons (eTup (aCons (eC (.int 0)) (aCons (eC (.int 1)) aNil))) (aCons (eTup (aCons (eC (.int 0)) (aCons (eC (.int 1)) aNil))) aNil)))) (aCons (eVar 11) aNil))) (eC (.int 0)))) (sRet (eOp fEq (eVar 14) (eVar 16))) sNext) (sAsg (eOp fMul (eVar 4) (eC (.int 2))) (mgName 4)))) ds
      [s0, s1, s2, s3, .va (.int (2 ^ t)), s5, s6, s7, s8, s9, .va (nrm a b C), .va (nrm d f E), s12, s13, .va (dr (fnd (val a b C) T)), s15, s16] P
  | [], t, s15, s16, P, _, hl, _ => by simp at hl
  | x :: ds, t, s15, s16, P, ht, hl, hP => by
    obtain ⟨nx, rt', bk, ct⟩ := P
    have hs2 : sm 171 (2 ^ t : Int) := sm_mono (sm_pow2 t) (by omega)
    have hib := bz_int hs2 (by decide)
    have h00 : (0 : Rat) ≤ 0 := by decide
    have hE0 : 0 ≤ trd f E := trd_nonneg (by have := hE.1; grind)
    placed_of0
    rw [dr_int]
    refine sp_by_fraction hC bC ha hb hib (by decide) (by decide) ?_
    placed_of0
    refine floor_nrm hC bC (ka := 232) (kb := 232) (bz_mul ha hib) (bz_mul hb hib) (by decide) fun n n1 n2 n3 n4 => ?_
    rw [val_mul] at n1 n2 n3
    have hn1 : sm 709 (n + 1) := sm_mono (sm_add n4 (sm_mono (k := 1) (by unfold sm; decide) (by decide))) (by decide)
    placed_of0
    refine sp__law_frac (pow2_ne t) hn1 (sm_mono hs2 (by decide)) (by decide) ?_
    rw [show Rat.divInt (n + 1) (2 ^ t) = fnd (val a b C) t by unfold fnd; rw [← n1]]
    have hbf : bz 709 (fnd (val a b C) t) := by
      unfold fnd
      rw [← n1]
      exact bz_div (pow2_ne t) hn1 (sm_mono hs2 (by decide))
    placed_of0
    rw [lit01]
    placed_of1
    rw [cmp_rat hE0, val_trd]
    by_cases hcm : Rl.q (fnd (val a b C) t) < val d f E
    · rw [decide_eq_true (by rw [sr_lt]; grind)]
      have e : t = T := by
        refine Classical.byContradiction fun z => ?_
        exact h2 t (by omega) hcm
      subst e
      placed_of0
      rw [eqv_dr, decide_eq_true rfl]
      exact hP
    · rw [decide_eq_false (by rw [sr_lt]; grind)]
      have hlt : t ≠ T := fun z => hcm (by rw [z]; exact h1)
      placed_of0
      · exact cmul hs2 sm_2 (by decide)
      placed_of0
      have e2 : (2 ^ t * 2 : Int) = 2 ^ (t + 1) := by rw [Int.pow_succ]
      rw [e2]
      exact lbetween_loop hC bC hE bE ha hb hd hf hT h1 h2 ds (t + 1) _ _ ⟨nx, rt', bk, ct⟩ (by omega) (by simp at hl; omega) hP
theorem parts_ok (h : Q (.bool true)) : F__law_parts [wD] Q := by
  unfold F__law_parts
  placed_of0
  refine pick_ok (by decide) (pick_c (R := R1) list1 ?_)
  intro c1 C hc1 hr1
  placed_of0
  refine number_ok hc1 fun p1 p2 a b hp1 hp2 ha hb' ea eb => ?_
  placed_of0
  refine pick_ok (by decide) (pick_c (R := R2) list2 ?_)
  intro c2 E hc2 hr2
  placed_of0
  refine number_ok hc2 fun p3 p4 d f hp3 hp4 hd hf' ed ef => ?_
  have hb : bz 61 b := bz_mono hb' (by decide)
  have hf : bz 61 f := bz_mono hf' (by decide)
  obtain ⟨tC, kC⟩ := r1_th hc1 hr1
  obtain ⟨tE, kE⟩ := r2_th hc2 hr2
  have sa := sh_a hp1 hp2 ea
  have sb := sh_b hp2 eb
  have sd := sh_a hp3 hp4 ed
  have sf := sh_b hp4 ef
  have hCE := ce_ok kC kE
  have hN := hc1.n
  have hB := hc1.bC
  have hN2 := hc2.n
  have hBE := hc2.bC
  clear ea eb ed ef hp1 hp2 hp3 hp4 hb' hf' hr1 hr2 hc1 hc2 kC kE
  have h00 : (0 : Rat) ≤ 0 := by decide
  have hC0 : 0 ≤ trd b C := trd_nonneg (by have := hN.1; grind)
  have hE0 : 0 ≤ trd f E := trd_nonneg (by have := hN2.1; grind)
  placed_of0
  refine floor_nrm hN hB ha hb (by decide) fun n n1 n2 n3 n4 => ?_
  placed_of0
  rw [dr_int, lit01]
  have hn4 : sm 500 n := sm_mono n4 (by decide)
  have hbn := bz_int hn4 (by decide)
  placed_of1
  rw [cmp_int hC0, val_trd, decide_eq_false (by rw [sr_gt]; grind)]
  placed_of0
  rw [dr_int, lit01]
  have hbn1 := bz_int (sm_add hn4 (show sm 500 1 by unfold sm; exact Nat.one_lt_two_pow (by decide))) (by decide)
  placed_of1
  rw [cmp_int hC0, val_trd, decide_eq_false (by rw [sr_le]; grind)]
  placed_of0
  refine next_ok (by decide) fun i i0 i1 => ?_
  placed_of0
  refine next_ok (by decide) fun j j0 j1 => ?_
  obtain ⟨jn, rfl⟩ : ∃ jn : Nat, j = (jn : Int) := ⟨j.toNat, by omega⟩
  have hj3 : jn ≤ 3 := by omega
  clear j0 j1
  have hr0 : 0 < 1 + i := by omega
  have hrs : sm 4 (1 + i) := sm_of (by simp; omega) (by simp; omega)
  generalize 1 + i = r at *
  placed_of0
  refine near_ok (by omega) hrs (by decide) hN hB ha hb (by decide) fun nn m1 m2 m3 m4 => ?_
  have m4' : sm 300 nn := sm_mono m4 (by decide)
  have hnear : bz 300 (Rat.divInt nn r) := bz_div (by omega) m4' (sm_mono hrs (by decide))
  have hrb := bz_int hrs (by decide)
  have e1 := div_q (n := nn) hr0
  have qr := q_posI hr0
  have le1 : Rl.q (Rat.divInt nn r) ≤ val a b C := le_of_mul qr (by rw [e1]; exact m2)
  placed_of0
  refine w_kR1 (by omega) (by omega) ?_
  rw [rngD_range']
  placed_of0
  refine unit_loop jn _ 1 _ 1 (by unfold sm; decide) (by omega) (fun s8 => ?_) 0
  rw [Int.one_mul]
  placed_of0
  rw [dr_int]
  placed_of1
  refine floor_nrm hN hB (ka := 65) (kb := 65) (bz_mul ha hrb) (bz_mul hb hrb) (by decide) fun n' n1' n2' n3' n4' => ?_
  obtain rfl : n' = nn := by rw [n1', m1, val_mul]
  placed_of0
  refine sp__law_frac (by omega) m4' (sm_mono hrs (by decide)) (by decide) ?_
  placed_of0
  rw [eqv_dr, decide_eq_true rfl]
  placed_of0
  rw [lit01]
  placed_of1
  rw [cmp_rat hC0, val_trd, decide_eq_false (by rw [sr_gt]; grind)]
  placed_of0
  rw [dr_inv hr0]
  have hinv : bz 4 (Rat.divInt 1 r) := bz_div (by omega) (by unfold sm; decide) hrs
  have e2 := div_q (n := 1) hr0
  have lt1 : val a b C < Rl.q (Rat.divInt n' r + Rat.divInt 1 r) := by
    refine lt_of_mul qr ?_
    have e3 : Rl.q (Rat.divInt n' r + Rat.divInt 1 r) * Rl.q r = Rl.q ((n' + 1 : Int) : Rat) := by
      rw [Rl.q_add, Rat.intCast_add, Rl.q_add, ← e1, ← e2]; grind
    rw [e3]
    exact m3
  placed_of1
  rw [lit01]
  placed_of1
  rw [cmp_rat hC0, val_trd, decide_eq_false (by rw [sr_le]; grind)]
  placed_of0
  refine rounded_ok hj3 hN hB ha hb (by decide) (by decide) (by decide) fun mm k1 k2 k3 k4 => ?_
  have u0 : (0 : Int) < 10 ^ jn := Int.pow_pos (by decide)
  have us : sm 13 (10 ^ jn : Int) := sm_mono (sm_pow10 jn) (by omega)
  have u20 : (0 : Int) < 2 * 10 ^ jn := by omega
  have us2 : sm 15 (2 * 10 ^ jn : Int) := sm_mono (sm_mul sm_2 us) (by decide)
  have ms2 : sm 902 (2 * mm) := sm_mono (sm_mul sm_2 k4) (by decide)
  have ml : sm 903 (2 * mm - 1) := sm_mono (sm_sub ms2 (show sm 902 1 by unfold sm; exact Nat.one_lt_two_pow (by decide))) (by decide)
  have mh : sm 903 (2 * mm + 1) := sm_mono (sm_add ms2 (show sm 902 1 by unfold sm; exact Nat.one_lt_two_pow (by decide))) (by decide)
  placed_of0
  · exact cmul sm_2 k4 (by decide)
  placed_of0
  · exact cmul sm_2 us (by decide)
  placed_of0
  refine sp__law_frac (by omega) ml (sm_mono us2 (by decide)) (by decide) ?_
  placed_of0
  · exact cmul sm_2 k4 (by decide)
  placed_of0
  · exact cmul sm_2 us (by decide)
  placed_of0
  refine sp__law_frac (by omega) mh (sm_mono us2 (by decide)) (by decide) ?_
  have qu := q_posI u20
  have el := div_q (n := 2 * mm - 1) u20
  have eh := div_q (n := 2 * mm + 1) u20
  have e2u : Rl.q ((2 * 10 ^ jn : Int) : Rat) = 2 * Rl.q ((10 ^ jn : Int) : Rat) := by rw [Rat.intCast_mul, Rl.q_mul]; rfl
  have e2l : Rl.q ((2 * mm - 1 : Int) : Rat) = 2 * Rl.q mm - 1 := by rw [Rat.intCast_sub, Rl.q_sub, Rat.intCast_mul, Rl.q_mul]; rfl
  have e2h : Rl.q ((2 * mm + 1 : Int) : Rat) = 2 * Rl.q mm + 1 := by rw [Rat.intCast_add, Rl.q_add, Rat.intCast_mul, Rl.q_mul]; rfl
  have e1m : Rl.q ((mm + 1 : Int) : Rat) = Rl.q mm + 1 := by rw [Rat.intCast_add, Rl.q_add]; rfl
  have ehf : Rl.q (1 / 2) * 2 = 1 := by
    rw [← Rl.q_two, ← Rl.q_mul, show (1 / 2 * 2 : Rat) = 1 by decide +kernel]; rfl
  have lo1 : Rl.q (Rat.divInt (2 * mm - 1) (2 * 10 ^ jn)) ≤ val a b C := le_of_mul qu (by rw [el, e2l, e2u]; grind)
  have hi1 : val a b C < Rl.q (Rat.divInt (2 * mm + 1) (2 * 10 ^ jn)) := lt_of_mul qu (by rw [eh, e2h, e2u]; rw [e1m] at k3; grind)
  have bl : bz 903 (Rat.divInt (2 * mm - 1) (2 * 10 ^ jn)) := bz_div (by omega) ml (sm_mono us2 (by decide))
  have bh : bz 903 (Rat.divInt (2 * mm + 1) (2 * 10 ^ jn)) := bz_div (by omega) mh (sm_mono us2 (by decide))
  placed_of0
  rw [lit01]
  placed_of1
  rw [cmp_rat hC0, val_trd, decide_eq_false (by rw [sr_gt]; grind)]
  placed_of0
  rw [lit01]
  placed_of1
  rw [cmp_rat hC0, val_trd, decide_eq_false (by rw [sr_le]; grind)]
  placed_of0
  have l1 : (Str.ofString (toString (if mm < 0 then -mm else mm))).length ≤ 900 := tstr_len k4
  have l2 := txt_len k4 hj3
  refine w_strc (by have := log2_sm k4; have := log2_sm (sm_neg k4); split <;> omega) ?_
  placed_of0
  refine w_lenS (by omega) ?_
  placed_of0
  refine w_mulS (by omega) (by omega) (by decide) ?_
  placed_of0
  · have := len_mul "0" (((jn : Nat) : Int) + 1 - (Str.ofString (toString (if mm < 0 then -mm else mm))).length) (by omega) (by decide)
    omega
  rw [show mulStr "0" (((jn : Nat) : Int) + 1 - (Str.ofString (toString (if mm < 0 then -mm else mm))).length) ++ Str.ofString (toString (if mm < 0 then -mm else mm)) = txt mm jn from rfl]
  placed_of0
  refine w_lenS (by omega) ?_
  placed_of0
  have c1 := len_cut (txt mm jn) none (some ((txt mm jn).length - (jn : Nat)))
  have c2 := len_cut (txt mm jn) (some ((txt mm jn).length - (jn : Nat))) none
  refine w_fSlS (by omega) ?_
  refine w_eIf_join (.str (if 0 < ((jn : Nat) : Int) then "." ++ cutS (txt mm jn) (some ((txt mm jn).length - (jn : Nat))) none else "")) (fun Q' q' => ?_) ?_
  · placed_of0
    by_cases hj0 : 0 < ((jn : Nat) : Int)
    · rw [if_pos hj0] at q'
      rw [decide_eq_true hj0]
      placed_of0
      refine w_lenS (by omega) ?_
      placed_of0
      refine w_fSlS (by omega) ?_
      placed_of0
      · have : (Str.ofString ".").length = 1 := by decide
        omega
      exact q'
    · rw [if_neg hj0] at q'
      rw [decide_eq_false hj0]
      placed_of0
      exact q'
  have c3 : (if 0 < ((jn : Nat) : Int) then "." ++ cutS (txt mm jn) (some ((txt mm jn).length - (jn : Nat))) none else "" : Str).length ≤ 2001 := by
    split
    · rw [len_app]
      have : (Str.ofString ".").length = 1 := by decide
      omega
    · decide
  generalize hB2 : (if 0 < ((jn : Nat) : Int) then "." ++ cutS (txt mm jn) (some ((txt mm jn).length - (jn : Nat))) none else "" : Str) = B2 at *
  placed_of0
  · omega
  placed_of0
  refine digits_ok hj3 hN hB ha hb (by decide) (by decide) (by decide) fun mm' k1' _ => ?_
  obtain rfl : mm' = mm := by rw [k1', k1]
  placed_of0
  refine w_iteC (z := .str (if mm' < 0 then "-" else "")) (by
    by_cases hm0 : mm' < 0
    · rw [decide_eq_true hm0, if_pos rfl, if_pos hm0]
    · rw [decide_eq_false hm0, if_neg (by decide), if_neg hm0]) ?_
  have c4 : (if mm' < 0 then "-" else "" : Str).length ≤ 1 := by split <;> decide
  placed_of0
  · rw [len_app]; omega
  have e9 : dgt mm' jn = (if mm' < 0 then "-" else "" : Str) ++ (cutS (txt mm' jn) none (some ((txt mm' jn).length - (jn : Nat))) ++ B2) := by
    unfold dgt
    rw [hB2, app_assoc]
    split <;> rfl
  have ok9 := okD_str (sok_dgt mm' jn)
  rw [← e9]
  refine w_ne ok9 ok9 ?_
  rw [eqv_str]
  placed_of0
  placed_of1
  rw [eqv_int]
  have hcv : cmp a b (trd b C) d f (trd f E) = sr (val a b C - val d f E) := by rw [cmp_val hC0 hE0, val_trd, val_trd]
  rw [hcv]
  by_cases hz : sr (val a b C - val d f E) = 0
  · rw [decide_eq_true hz]
    placed_of0
    exact h
  rw [decide_eq_false hz]
  placed_of0
  have hlen : ∀ T, T ≤ 170 → T - 0 < (rngD 0 (200 : Int).toNat).length := fun T hT => by
    unfold rngD
    rw [List.length_map, List.length_range]
    show T - 0 < 200
    omega
  by_cases hlt : val a b C < val d f E
  · rw [decide_eq_true (by rw [sr_lt]; grind)]
    obtain ⟨T, hT, t1, t2⟩ := fnd_least tC tE hCE sa sb sd sf hlt
    placed_of0
    refine between_ok hN hB hN2 hBE ha hb hd hf hT t1 t2 ?_
    placed_of0
    have key := fun (s15 s16 : Sl) (s0 s1 s2 s3 s5 s6 s7 s8 s9 s12 s13 : Sl) (P : Po) => lbetween_loop hN hB hN2 hBE ha hb hd hf hT t1 t2 (s0 := s0) (s1 := s1) (s2 := s2) (s3 := s3) (s5 := s5) (s6 := s6) (s7 := s7) (s8 := s8) (s9 := s9) (s12 := s12) (s13 := s13) (rngD 0 (200 : Int).toNat) 0 s15 s16 P (by omega) (hlen T hT)
    rw [Int.pow_zero] at key
    exact key _ _ _ _ _ _ _ _ _ _ _ _ _ _ h
  · have hgt : val d f E < val a b C := by
      rcases sr_cases (val a b C - val d f E) with ⟨e, g⟩ | ⟨e, g⟩ | ⟨e, g⟩
      · grind
      · exact (hz e).elim
      · grind
    rw [decide_eq_false (by rw [sr_lt]; grind)]
    have hEC : E = C ∨ Nsq (C * E) := by
      rcases hCE with z | z
      · exact .inl z.symm
      · rw [Rat.mul_comm] at z; exact .inr z
    obtain ⟨T, hT, t1, t2⟩ := fnd_least tE tC hEC sd sf sa sb hgt
    placed_of0
    refine between_ok hN2 hBE hN hB hd hf ha hb hT t1 t2 ?_
    placed_of0
    have key := fun (s15 s16 : Sl) (s0 s1 s2 s3 s5 s6 s7 s8 s9 s12 s13 : Sl) (P : Po) => lbetween_loop hN2 hBE hN hB hd hf ha hb hT t1 t2 (s0 := s0) (s1 := s1) (s2 := s2) (s3 := s3) (s5 := s5) (s6 := s6) (s7 := s7) (s8 := s8) (s9 := s9) (s12 := s12) (s13 := s13) (rngD 0 (200 : Int).toNat) 0 s15 s16 P (by omega) (hlen T hT)
    rw [Int.pow_zero] at key
    exact key _ _ _ _ _ _ _ _ _ _ _ _ _ _ h
end

section
variable {k l m ka kb kc kd ke kf : Nat} {a b c d e f p q C E X Y x y z : Rat} {Q : D → Prop}
theorem divInt_self (p : Rat) : Rat.divInt p.num (p.den : Nat) = p := Rat.num_divInt_den p
theorem divInt_6 (p : Rat) : Rat.divInt (p.num * 6) ((p.den : Nat) * 6) = p := by rw [Rat.divInt_mul_right (by decide), divInt_self]
theorem divInt_n (p : Rat) : Rat.divInt (-p.num) (p.den : Nat) = -p := by rw [← Rat.neg_divInt, divInt_self]
theorem divInt_n2 (p : Rat) : Rat.divInt p.num (-(p.den : Nat)) = -p := by rw [Rat.divInt_neg', divInt_n]
theorem divInt_2 (p : Rat) : Rat.divInt p.num (2 * (p.den : Nat)) = p / 2 := by
  have e := div_div p 2
  rw [show ((2 : Rat).num) = 2 from rfl, show ((2 : Rat).den : Int) = 1 from rfl, Int.mul_one, Int.mul_comm] at e
  exact e
theorem sp_middle (hp : bz k p) (hq : bz l q) (hk : k + l < 7900) (h : Q (dr ((p + q) / 2))) : F_middle [dr p, dr q] Q := by
  unfold F_middle
  placed_of1
  exact h
local macro_rules | `(tactic| dl_keeps) => `(tactic| (with_reducible apply sp_middle; (focus pv_meta); (focus pv_meta); (focus pv_meta)))
theorem eqv_bool (x : Bool) : PyData.eqv (.bool x) (.bool x) = true := by cases x <;> rfl
theorem sp_is_less (hp : bz k p) (hq : bz l q) (hk : k + l < 7900) (h : Q (.bool (decide (p.num * (q.den : Nat) < q.num * (p.den : Nat))))) : F_is_less [dr p, dr q] Q := by
  have h1 := hp.1
  have h2 := hq.1
  have h3 := sm_den hp
  have h4 := sm_den hq
  unfold F_is_less
  placed_of0
  · exact cmul h1 h4 (by omega)
  placed_of0
  · exact cmul h2 h3 (by omega)
  placed_of0
  exact h
local macro_rules | `(tactic| dl_keeps) => `(tactic| (with_reducible apply sp_is_less; (focus pv_meta); (focus pv_meta); (focus pv_meta)))
theorem sp_floor (hp : bz k p) (hk : k < 7900) (h : Q (.int (p.num.fdiv (p.den : Nat)))) : F_floor [dr p] Q := by
  unfold F_floor
  placed_of0
  · exact cdv (sm_den hp) (den_ne p) (by omega)
  placed_of0
  exact h
local macro_rules | `(tactic| dl_keeps) => `(tactic| (with_reducible apply sp_floor; (focus pv_meta); (focus pv_meta)))
theorem fractions_ok (h : Q (.bool true)) : F__law_fractions [wD] Q := by
  unfold F__law_fractions
  placed_of0
  refine part_ok fun p hp => ?_
  placed_of0
  refine part_ok fun q hq => ?_
  have hp := hp.bz
  have hq := hq.bz
  have s6 : sm 3 6 := by unfold sm; decide
  have pd := sm_den hp
  have qd := sm_den hq
  placed_of1
  · exact cmul hp.1 s6 (by decide)
  placed_of0
  · exact cmul pd s6 (by decide)
  placed_of0
  refine fraction_ok (by have := p.den_pos; omega) (sm_mul pd s6) (by decide) ?_
  rw [divInt_6]
  placed_of0
  rw [eqv_dr, decide_eq_true rfl]
  placed_of0
  rw [Int.zero_sub]
  refine fraction_ok (by have := p.den_pos; omega) (sm_neg pd) (by decide) ?_
  rw [divInt_n2]
  placed_of0
  rw [Int.zero_sub]
  refine sp__law_frac (by have := p.den_pos; omega) (sm_neg hp.1) pd (by decide) ?_
  rw [divInt_n]
  placed_of0
  rw [eqv_dr, decide_eq_true rfl]
  placed_of0
  refine sp_whole ?_
  placed_of0
  placed_of1
  rw [eqv_dr, decide_eq_true rfl]
  placed_of1
  rw [eqv_dr, decide_eq_true rfl]
  placed_of1
  rw [Int.zero_sub]
  refine sp__law_frac (by have := p.den_pos; omega) (sm_neg hp.1) pd (by decide) ?_
  rw [divInt_n]
  placed_of1
  rw [eqv_dr, decide_eq_true rfl]
  placed_of1
  rw [eqv_dr, decide_eq_true rfl]
  placed_of1
  · exact cmul sm_2 pd (by decide)
  placed_of0
  refine sp__law_frac (k := 31) (by have := p.den_pos; omega) (sm_mono hp.1 (by decide)) (sm_mul sm_2 pd) (by decide) ?_
  rw [divInt_2]
  placed_of1
  rw [eqv_dr, decide_eq_true rfl]
  placed_of1
  rw [eqv_int, decide_eq_true rfl]
  have hpn := hp.1
  have hqn := hq.1
  placed_of1
  · exact cmul hpn qd (by decide)
  placed_of1
  · exact cmul hqn pd (by decide)
  placed_of1
  rw [eqv_bool]
  placed_of1
  · exact cdv pd (den_ne p) (by omega)
  placed_of1
  rw [eqv_int, decide_eq_true rfl]
  placed_of1
  rw [lit21]
  refine sp__law_over (bz_add hp hq) bz_2 (by decide) (by omega) ?_
  placed_of1
  rw [eqv_dr, decide_eq_true rfl]
  placed_of1
  refine sp_sum3 hp hq hp (by omega) ?_
  placed_of1
  rw [eqv_dr, decide_eq_true rfl]
  placed_of1
  refine sp_sum0 ?_
  placed_of1
  rw [eqv_int]
  by_cases hq0 : q.num = 0
  · rw [decide_eq_true hq0]
    placed_of1
    exact h
  · rw [decide_eq_false hq0]
    have hq1 : q ≠ 0 := fun z => hq0 (Rat.num_eq_zero.mpr z)
    placed_of1
    rw [eqv_dr, decide_eq_true rfl]
    exact h
end
local macro_rules | `(tactic| dl_keeps) => `(tactic| (with_reducible apply sp_middle; (focus pv_meta); (focus pv_meta); (focus pv_meta)))
local macro_rules | `(tactic| dl_keeps) => `(tactic| (with_reducible apply sp_is_less; (focus pv_meta); (focus pv_meta); (focus pv_meta)))
local macro_rules | `(tactic| dl_keeps) => `(tactic| (with_reducible apply sp_floor; (focus pv_meta); (focus pv_meta)))

/-! ### rows of numbers -/
structure Nu where
  a : Rat
  b : Rat
  C : Rat
  hN : Nsq C
  hB : bz 4 C
  ha : bz 61 a
  hb : bz 61 b
abbrev Nu.d (x : Nu) : D := nrm x.a x.b x.C
noncomputable abbrev Nu.v (x : Nu) : Rl := val x.a x.b x.C
theorem Nu.t0 (x : Nu) : 0 ≤ trd x.b x.C := trd_nonneg (by have := x.hN.1; grind)
section
variable {Q : D → Prop}
theorem nu_compare (x y : Nu) (h : Q (.int (sr (x.v - y.v)))) : F_compare [x.d, y.d] Q := by
  refine sp_compare x.ha x.hb (bz_trd1 x.hB) y.ha y.hb (bz_trd1 y.hB) (by decide) ?_
  rw [cmp_val x.t0 y.t0, val_trd, val_trd]
  exact h
theorem nu_lcompare (x y : Nu) (h : Q (.int (sr (x.v - y.v)))) : F__law_compare [x.d, y.d] Q := by
  refine sp__law_compare x.t0 y.t0 x.ha x.hb (bz_trd1 x.hB) y.ha y.hb (bz_trd1 y.hB) (by decide) ?_
  rw [cmp_val x.t0 y.t0, val_trd, val_trd]
  exact h
def Rc (c : Rat) : Prop := True
theorem list3 : ∀ d ∈ [PyData.tuple [.int 2, .int 1], .tuple [.int 3, .int 1], .tuple [.int 5, .int 4], .tuple [.int 0, .int 1]], ∃ c C, d = dr c ∧ Cok c C ∧ Rc c := by
  intro d hd
  simp only [List.mem_cons, List.not_mem_nil, or_false] at hd
  rcases hd with rfl | rfl | rfl | rfl
  · exact ⟨2, 2, rfl, cok_2, trivial⟩
  · exact ⟨3, 3, rfl, cok_3, trivial⟩
  · exact ⟨dv 5 4, _, rfl, cok_54, trivial⟩
  · exact ⟨0, 2, rfl, cok_0, trivial⟩
/-- the row that is drawn -/
theorem draw_rows {s1 s2 s3 s4 s5 s6 s7 s8 s9 s10 : Sl} : ∀ (ds : List D) (acc : List Nu) (Q : List D → Prop), (∀ xs : List Nu, xs.length = acc.length + ds.length → Q (xs.map Nu.d)) →
    lcW (mgName 8) mYes (eCallN 2 F__law_number (aCons (eVar 0) (aCons (eCallN 2 F__law_pick (aCons (eVar 0) (aCons (eLst (aCons (eTup (aCons (eC (.int 2)) (aCons (eC (.int 1)) aNil))) (aCons (eTup (aCons (eC (.int 3)) (aCons (eC (.int 1)) aNil))) (aCons (eTup (aCons (eC (.int 5)) (aCons (eC (.int 4)) aNil))) (aCons (eTup (aCons (eC (.int 0)) (aCons (eC (.int 1)) aNil))) aNil))))) aNil))) aNil)))
      [.va wD, s1, s2, s3, s4, s5, s6, s7, s8, s9, s10] ds (acc.map Nu.d) Q
  | [], acc, Q, h => h acc (by simp)
  | x :: ds, acc, Q, h => by
    refine w_lcC ?_
    placed_of0
    refine pick_ok (by decide) (pick_c (R := Rc) list3 ?_)
    intro c C hc _
    placed_of0
    refine number_ok hc fun p p' a b _ _ ha hb _ _ => ?_
    have := draw_rows (s1 := s1) (s2 := s2) (s3 := s3) (s4 := s4) (s5 := s5) (s6 := s6) (s7 := s7) (s8 := s8) (s9 := s9) (s10 := s10) ds (acc ++ [⟨a, b, C, hc.n, hc.bC, ha, bz_mono hb (by decide)⟩]) Q fun xs hx => h xs (by rw [hx, List.length_append, List.length_cons, List.length_cons, List.length_nil]; omega)
    rw [List.map_append] at this
    exact this
end

section
variable {Q : D → Prop}
noncomputable def lev (x y : Nu) : Bool := decide (sr (x.v - y.v) ≤ 0)
theorem lev_iff {x y : Nu} : lev x y = true ↔ x.v ≤ y.v := by
  unfold lev
  rw [decide_eq_true_iff, sr_le]
  constructor <;> intro h <;> grind
theorem filt_le {s0 s1 s3 s4 : Sl} (one : Nu) : ∀ (ys acc : List Nu) (Q : List D → Prop), Q ((acc ++ ys.filter (fun y => lev y one)).map Nu.d) →
    lcW (mgName 4) (eT (eOp fLe (eCallN 2 F_compare (aCons (eVar 4) (aCons (eVar 2) aNil))) (eC (.int 0)))) (eVar 4) [s0, s1, .va one.d, s3, s4] (ys.map Nu.d) (acc.map Nu.d) Q
  | [], acc, Q, h => by
    rw [List.filter_nil, List.append_nil] at h
    exact h
  | y :: ys, acc, Q, h => by
    rw [List.map_cons]
    refine w_lcC ?_
    placed_of0
    refine nu_compare y one ?_
    placed_of0
    rw [show decide (sr (y.v - one.v) ≤ 0) = lev y one from rfl]
    cases e : lev y one with
    | true =>
      placed_of0
      have := filt_le (s0 := s0) (s1 := s1) (s3 := s3) (s4 := s4) one ys (acc ++ [y]) Q (by rw [List.filter_cons_of_pos (p := fun y => lev y one) e] at h; rw [List.append_assoc]; exact h)
      rw [List.map_append] at this
      exact this
    | false =>
      placed_of0
      exact filt_le one ys acc Q (by rw [List.filter_cons_of_neg (p := fun y => lev y one) (by rw [e]; decide)] at h; exact h)
/-- in order -/
def Up (ys : List Nu) : Prop := ys.Pairwise fun x y => x.v ≤ y.v
theorem filter_all (p : Nu → Bool) : ∀ (l : List Nu), (∀ x ∈ l, p x = false) → l.filter p = []
  | [], _ => rfl
  | x :: l, h => by
    rw [List.filter_cons_of_neg (by rw [h x List.mem_cons_self]; decide)]
    exact filter_all p l fun z hz => h z (List.mem_cons_of_mem _ hz)
theorem up_split (one : Nu) : ∀ {ys : List Nu}, Up ys → ys = ys.filter (fun y => lev y one) ++ ys.filter (fun y => !lev y one)
  | [], _ => rfl
  | y :: ys, h => by
    obtain ⟨h1, h2⟩ := List.pairwise_cons.mp h
    cases e : lev y one with
    | true =>
      rw [List.filter_cons_of_pos (p := fun y => lev y one) e, List.filter_cons_of_neg (p := fun y => !lev y one) (by rw [e]; decide), List.cons_append, ← up_split one h2]
    | false =>
      have hn : ∀ x ∈ ys, lev x one = false := fun x hx => by
        cases e2 : lev x one with
        | false => rfl
        | true =>
          have a1 := lev_iff.mp e2
          have a2 := h1 x hx
          have : y.v ≤ one.v := by grind
          rw [lev_iff.mpr this] at e
          cases e
      have k1 : ys.filter (fun y => lev y one) = [] := filter_all _ _ hn
      have k2 : ys.filter (fun y => !lev y one) = ys := List.filter_eq_self.mpr fun x hx => by rw [hn x hx]; rfl
      rw [List.filter_cons_of_neg (p := fun y => lev y one) (by rw [e]; decide), List.filter_cons_of_pos (p := fun y => !lev y one) (by rw [e]; rfl), k1, k2]
      rfl
theorem up_insert (one : Nu) {ys : List Nu} (h : Up ys) : Up (ys.filter (fun y => lev y one) ++ one :: ys.filter (fun y => !lev y one)) := by
  have hs := up_split one h
  rw [hs] at h
  obtain ⟨h1, h2, h3⟩ := List.pairwise_append.mp h
  refine List.pairwise_append.mpr ⟨?_, List.pairwise_cons.mpr ⟨fun x hx => ?_, ?_⟩, fun x hx y hy => ?_⟩
  · exact h.sublist (List.sublist_append_left _ _)
  · have := (List.mem_filter.mp hx).2
    have hle : ¬ x.v ≤ one.v := fun z => by rw [lev_iff.mpr z] at this; cases this
    grind
  · exact h.sublist (List.sublist_append_right _ _)
  · have hx1 := lev_iff.mp (List.mem_filter.mp hx).2
    rcases List.mem_cons.mp hy with rfl | hy
    · exact hx1
    · have := (List.mem_filter.mp hy).2
      have hle : ¬ y.v ≤ one.v := fun z => by rw [lev_iff.mpr z] at this; cases this
      grind
end

section
variable {Q : D → Prop}
theorem w_kIns {i : Nat} {ds : List D} {ρ ρ' : En} {nx : En → Prop} {n : Int} {d : D} (h1 : ds.length < 100000) (h2 : 0 ≤ n) (h3 : n ≤ 100000) (h : ρ.set i (.ow (ds.take n.toNat ++ [d] ++ ds.drop n.toNat)) = ρ') (q : nx ρ') : kIns i ds ρ nx [.int n, d] := by
  subst h; exact ⟨h1, h2, h3, q⟩
theorem sort_loop {s0 : Sl} : ∀ (xs ys : List Nu) (s2 s3 s4 : Sl) (P : Po), Up ys → xs.length + ys.length < 1000 → (∀ (zs : List Nu) (s2 s3 s4 : Sl), Up zs → zs.Perm (ys ++ xs) → P.nx [s0, .ow (zs.map Nu.d), s2, s3, s4]) →
    forW (mgName 2) (sSeq (sAsg (eCall fLen (aCons (eLc (itO 1) [4] (mgName 4) (eT (eOp fLe (eCallN 2 F_compare (aCons (eVar 4) (aCons (eVar 2) aNil))) (eC (.int 0)))) (eVar 4)) aNil)) (mgName 3)) (sIns 1 (aCons (eVar 3) (aCons (eVar 2) aNil)))) (xs.map Nu.d) [s0, .ow (ys.map Nu.d), s2, s3, s4] P
  | [], ys, s2, s3, s4, P, hu, hl, hP => by
    obtain ⟨nx, rt, bk, ct⟩ := P
    exact hP ys s2 s3 s4 hu (by rw [List.append_nil])
  | x :: xs, ys, s2, s3, s4, P, hu, hl, hP => by
    obtain ⟨nx, rt, bk, ct⟩ := P
    have hl1 : ys.length < 999 := by rw [List.length_cons] at hl; omega
    rw [List.map_cons]
    placed_of0
    refine w_and (by rw [List.length_map]; omega) ?_
    refine filt_le (s0 := s0) (s1 := .ow (ys.map Nu.d)) (s3 := s3) (s4 := .no) x ys [] _ ?_
    rw [List.nil_append]
    placed_of0
    have hf : (ys.filter fun y => lev y x).length ≤ ys.length := List.length_filter_le _ _
    have hsp := up_split x hu
    refine w_kIns (by rw [List.length_map]; omega) (by omega) (by rw [List.length_map]; omega) rfl ?_
    have e : (ys.map Nu.d).take (((ys.filter fun y => lev y x).map Nu.d).length : Int).toNat ++ [x.d] ++ (ys.map Nu.d).drop (((ys.filter fun y => lev y x).map Nu.d).length : Int).toNat =
        (ys.filter (fun y => lev y x) ++ x :: ys.filter (fun y => !lev y x)).map Nu.d := by
      rw [Int.toNat_natCast]
      generalize ha : ys.filter (fun y => lev y x) = A at *
      generalize hb : ys.filter (fun y => !lev y x) = B at *
      rw [hsp, List.map_append, List.take_left, List.drop_left, List.map_append, List.map_cons, List.append_assoc]
      rfl
    rw [e]
    have key := sort_loop (s0 := s0) xs (ys.filter (fun y => lev y x) ++ x :: ys.filter (fun y => !lev y x)) (.va x.d) (.va (.int ((ys.filter fun y => lev y x).map Nu.d).length)) s4 ⟨nx, rt, bk, ct⟩ (up_insert x hu) (by
      have hp : (ys.filter (fun y => lev y x)).length + (ys.filter (fun y => !lev y x)).length = ys.length := by
        have := congrArg List.length hsp
        rw [List.length_append] at this
        exact this.symm
      rw [List.length_append, List.length_cons]
      rw [List.length_cons] at hl
      omega) (fun zs s2 s3 s4 hz hp => hP zs s2 s3 s4 hz (hp.trans ?_))
    · exact key
    · generalize ha : ys.filter (fun y => lev y x) = A at *
      generalize hb : ys.filter (fun y => !lev y x) = B at *
      rw [hsp, List.append_assoc, List.append_assoc, List.cons_append]
      exact List.Perm.append_left A List.perm_middle.symm
theorem sorted_roots_ok {xs : List Nu} (hl : xs.length < 900) (h : ∀ zs : List Nu, Up zs → zs.Perm xs → Q (.tuple (zs.map Nu.d))) : F_sorted_roots [.list (xs.map Nu.d)] Q := by
  unfold F_sorted_roots
  placed_of0
  refine sort_loop xs [] _ _ _ _ List.Pairwise.nil (by simp; omega) fun zs s2 s3 s4 hz hp => ?_
  placed_of0
  exact h zs hz hp
end

section
variable {Q : D → Prop}
/-- the first of the least (sg = 1), of the greatest (sg = -1) -/
noncomputable def lst (sg : Int) (b : Nu) : List Nu → Nu
  | [] => b
  | y :: ys => lst sg (if sg * sr (y.v - b.v) < 0 then y else b) ys
theorem lst_spec (sg : Int) (hsg : sg = 1 ∨ sg = -1) : ∀ (ys pre post : List Nu) (b : Nu), (∀ y ∈ pre, sg * sr (b.v - y.v) < 0) → (∀ y ∈ post, sg * sr (b.v - y.v) ≤ 0) →
    ∃ pre' post', pre ++ b :: (post ++ ys) = pre' ++ lst sg b ys :: post' ∧ (∀ y ∈ pre', sg * sr ((lst sg b ys).v - y.v) < 0) ∧ (∀ y ∈ post', sg * sr ((lst sg b ys).v - y.v) ≤ 0)
  | [], pre, post, b, h1, h2 => ⟨pre, post, by rw [List.append_nil]; rfl, h1, h2⟩
  | y :: ys, pre, post, b, h1, h2 => by
    have tr : ∀ {p q r : Nu}, sg * sr (p.v - q.v) < 0 → sg * sr (q.v - r.v) ≤ 0 → sg * sr (p.v - r.v) < 0 := fun {p q r} g1 g2 => by
      rcases hsg with rfl | rfl
      · rw [Int.one_mul] at *
        rw [sr_lt] at *
        rw [sr_le] at g2
        grind
      · rw [Int.neg_one_mul] at *
        have g1' : 0 < sr (p.v - q.v) := by omega
        have g2' : 0 ≤ sr (q.v - r.v) := by omega
        rw [sr_gt] at g1'
        have g3 : ¬ sr (q.v - r.v) < 0 := by omega
        rw [sr_lt] at g3
        have : 0 < sr (p.v - r.v) := by rw [sr_gt]; grind
        omega
    unfold lst
    by_cases h : sg * sr (y.v - b.v) < 0
    · rw [if_pos h]
      have hbb : sg * sr (b.v - b.v) ≤ 0 := by rw [show b.v - b.v = 0 by grind, sr_zero]; omega
      obtain ⟨p, q, e, k1, k2⟩ := lst_spec sg hsg ys (pre ++ b :: post) [] y (fun z hz => by
        rw [List.mem_append, List.mem_cons] at hz
        rcases hz with hz | rfl | hz
        · exact tr h (Int.le_of_lt (h1 z hz))
        · exact tr h hbb
        · exact tr h (h2 z hz)) (fun z hz => by simp at hz)
      refine ⟨p, q, ?_, k1, k2⟩
      rw [← e]
      simp
    · rw [if_neg h]
      have h' : sg * sr (b.v - y.v) ≤ 0 := by
        rw [show b.v - y.v = -(y.v - b.v) by grind, sr_neg', Int.mul_neg]
        omega
      obtain ⟨p, q, e, k1, k2⟩ := lst_spec sg hsg ys pre (post ++ [y]) b h1 (fun z hz => by
        rw [List.mem_append, List.mem_singleton] at hz
        rcases hz with hz | rfl
        · exact h2 z hz
        · exact h')
      refine ⟨p, q, ?_, k1, k2⟩
      rw [← e]
      simp
end

section
variable {Q : D → Prop}
theorem least_loop {s0 : Sl} : ∀ (ys : List Nu) (b : Nu) (s2 : Sl) (P : Po), (∀ s2, P.nx [s0, .va (lst 1 b ys).d, s2]) →
    forW (mgName 2) (sAsg (eIf (eT (eOp fLt (eCallN 2 F_compare (aCons (eVar 2) (aCons (eVar 1) aNil))) (eC (.int 0)))) (eVar 2) (eVar 1)) (mgName 1)) (ys.map Nu.d) [s0, .va b.d, s2] P
  | [], b, s2, P, h => by
    obtain ⟨nx, rt, bk, ct⟩ := P
    exact h s2
  | y :: ys, b, s2, P, h => by
    obtain ⟨nx, rt, bk, ct⟩ := P
    rw [List.map_cons]
    unfold lst at h
    rw [Int.one_mul] at h
    placed_of0
    refine nu_compare y b ?_
    placed_of0
    by_cases e : sr (y.v - b.v) < 0
    · rw [decide_eq_true e]
      rw [if_pos e] at h
      placed_of0
      exact least_loop ys y _ ⟨nx, rt, bk, ct⟩ h
    · rw [decide_eq_false e]
      rw [if_neg e] at h
      placed_of0
      exact least_loop ys b _ ⟨nx, rt, bk, ct⟩ h
theorem great_loop {s0 : Sl} : ∀ (ys : List Nu) (b : Nu) (s2 : Sl) (P : Po), (∀ s2, P.nx [s0, .va (lst (-1) b ys).d, s2]) →
    forW (mgName 2) (sAsg (eIf (eT (eOp fGt (eCallN 2 F_compare (aCons (eVar 2) (aCons (eVar 1) aNil))) (eC (.int 0)))) (eVar 2) (eVar 1)) (mgName 1)) (ys.map Nu.d) [s0, .va b.d, s2] P
  | [], b, s2, P, h => by
    obtain ⟨nx, rt, bk, ct⟩ := P
    exact h s2
  | y :: ys, b, s2, P, h => by
    obtain ⟨nx, rt, bk, ct⟩ := P
    rw [List.map_cons]
    unfold lst at h
    rw [Int.neg_one_mul] at h
    placed_of0
    refine nu_compare y b ?_
    placed_of0
    by_cases e : 0 < sr (y.v - b.v)
    · rw [decide_eq_true e]
      rw [if_pos (by omega)] at h
      placed_of0
      exact great_loop ys y _ ⟨nx, rt, bk, ct⟩ h
    · rw [decide_eq_false e]
      rw [if_neg (by omega)] at h
      placed_of0
      exact great_loop ys b _ ⟨nx, rt, bk, ct⟩ h
theorem atI_c0 (d : D) (ds : List D) : atI (d :: ds) 0 = some d := by
  have e : ixN (d :: ds).length 0 = some 0 := by
    unfold ixN
    rw [if_pos (by omega), if_pos (by simp)]
    rfl
  unfold atI
  rw [e]
  rfl
theorem cut_1 {α : Type} (x : α) (xs : List α) : cutD (x :: xs) (some 1) none = xs := by
  unfold cutD HT.sIx
  simp
theorem least_ok {x : Nu} {xs : List Nu} (h : Q (lst 1 x xs).d) : F_least_of [.list ((x :: xs).map Nu.d)] Q := by
  unfold F_least_of
  rw [List.map_cons]
  placed_of0
  rw [cut_1]
  refine least_loop xs x _ _ fun s2 => ?_
  placed_of0
  exact h
theorem greatest_ok {x : Nu} {xs : List Nu} (h : Q (lst (-1) x xs).d) : F_greatest_of [.list ((x :: xs).map Nu.d)] Q := by
  unfold F_greatest_of
  rw [List.map_cons]
  placed_of0
  rw [cut_1]
  refine great_loop xs x _ _ fun s2 => ?_
  placed_of0
  exact h
end

section
variable {Q : D → Prop}
theorem toks_inj {a b c d e f : Rat} (h : PySem.W.keyToks (rt a b c) = PySem.W.keyToks (rt d e f)) : rt a b c = rt d e f := by
  simp only [rt, dr, PySem.W.keyToks, PySem.W.keyToksAll, List.cons_append, List.nil_append, List.cons.injEq, Sum.inl.injEq, and_true, true_and] at h
  obtain ⟨h1, h2, h3, h4, h5, h6⟩ := h
  unfold rt dr
  rw [h1, h2, h3, h4, h5, h6]
theorem le_anti {x y : Nu} (h1 : PySem.W.dataLe false id x.d y.d = true) (h2 : PySem.W.dataLe false id y.d x.d = true) : x.d = y.d := by
  have e1 : (!(PyProof.Rows.listOrd PyProof.Rows.itemOrd).blt (PySem.W.keyToks y.d) (PySem.W.keyToks x.d)) = true := h1
  have e2 : (!(PyProof.Rows.listOrd PyProof.Rows.itemOrd).blt (PySem.W.keyToks x.d) (PySem.W.keyToks y.d)) = true := h2
  rw [Bool.not_eq_true'] at e1 e2
  exact toks_inj ((PyProof.Rows.listOrd PyProof.Rows.itemOrd).total _ _ e2 e1)
theorem sort_same {xs ys : List Nu} (h : ys.Perm xs) : (ys.map Nu.d).mergeSort (PySem.W.dataLe false id) = (xs.map Nu.d).mergeSort (PySem.W.dataLe false id) := by
  have ht : PySem.W.TotalLe (PySem.W.dataLe false (id : D → D)) := PySem.W.sortLe_total _ false _
  refine List.Perm.eq_of_pairwise (le := fun a b => PySem.W.dataLe false id a b = true) (fun a b ha hb h1 h2 => ?_) (PySem.W.sort_pairwise ht _) (PySem.W.sort_pairwise ht _) ?_
  · rw [List.mem_mergeSort, List.mem_map] at ha hb
    obtain ⟨x, _, rfl⟩ := ha
    obtain ⟨y, _, rfl⟩ := hb
    exact le_anti h1 h2
  · exact (List.mergeSort_perm _ _).trans ((h.map _).trans (List.mergeSort_perm _ _).symm)
theorem okS_nu (xs : List Nu) (hl : xs.length ≤ 1000) : okS (xs.map Nu.d) := by
  refine ⟨?_, ?_, ?_, by rw [List.length_map]; omega, ?_⟩
  · intro d hd d' hd'
    obtain ⟨x, _, rfl⟩ := List.mem_map.mp hd
    obtain ⟨y, _, rfl⟩ := List.mem_map.mp hd'
    rfl
  · intro d hd
    obtain ⟨x, _, rfl⟩ := List.mem_map.mp hd
    exact ⟨_, _, rfl⟩
  · intro d hd
    obtain ⟨x, _, rfl⟩ := List.mem_map.mp hd
    show PyData.depth (nrm x.a x.b x.C) ≤ 60
    exact Nat.le_of_ble_eq_true rfl
  · clear hl
    induction xs with
    | nil => rfl
    | cons x xs ih => exact ih
end

section
variable {Q : D → Prop}
theorem w_sortedL {ds : List D} (h : okS ds) (q : Q (.list (ds.mergeSort (PySem.W.dataLe false id)))) : fSorted [.list ds] Q := ⟨h, q⟩
theorem w_sortedT {ds : List D} (h : okS ds) (q : Q (.list (ds.mergeSort (PySem.W.dataLe false id)))) : fSorted [.tuple ds] Q := ⟨h, q⟩
/-- lists of numbers are what == takes -/
theorem okD_list {ds : List D} (h : ∀ d ∈ ds, okD d ∧ d.depth ≤ 60) : okD (.list ds) := by
  have k : flatD.flatA ds = true ∧ PyData.canLayAll0 ds = true ∧ PyData.depthAll ds ≤ 60 := by
    induction ds with
    | nil => exact ⟨rfl, rfl, Nat.zero_le _⟩
    | cons d ds ih =>
      obtain ⟨i1, i2, i3⟩ := ih fun x hx => h x (List.mem_cons_of_mem _ hx)
      obtain ⟨⟨f, g⟩, e⟩ := h d List.mem_cons_self
      refine ⟨?_, ?_, ?_⟩
      · show (flatD d && flatD.flatA ds) = true
        rw [f, i1]; rfl
      · show (d.canLay0 && PyData.canLayAll0 ds) = true
        rw [SeqAt.canLay_of_shaped g, i2]; rfl
      · show max d.depth (PyData.depthAll ds) ≤ 60
        omega
  refine ⟨k.1, ?_⟩
  show (PyData.canLayAll0 ds && decide (PyData.depthAll ds + 1 ≤ 64)) = true
  rw [k.2.1, decide_eq_true (by omega)]; rfl
theorem okD_nu (x : Nu) : okD x.d ∧ x.d.depth ≤ 60 := ⟨⟨rfl, rfl⟩, Nat.le_of_ble_eq_true rfl⟩
theorem okD_nus (xs : List Nu) : okD (.list (xs.map Nu.d)) := okD_list fun d hd => by
  obtain ⟨x, _, rfl⟩ := List.mem_map.mp hd
  exact okD_nu x
theorem okD_sorted (xs : List Nu) : okD (.list ((xs.map Nu.d).mergeSort (PySem.W.dataLe false id))) := okD_list fun d hd => by
  rw [List.mem_mergeSort] at hd
  obtain ⟨x, _, rfl⟩ := List.mem_map.mp hd
  exact okD_nu x
theorem eqv_list {ds : List D} (h : ∀ d ∈ ds, PyData.eqv d d = true) : PyData.eqv (.list ds) (.list ds) = true := by
  show PyData.eqvAll ds ds = true
  induction ds with
  | nil => rfl
  | cons d ds ih =>
    show (PyData.eqv d d && PyData.eqvAll ds ds) = true
    rw [h d List.mem_cons_self, ih fun x hx => h x (List.mem_cons_of_mem _ hx)]; rfl
theorem eqv_rt (a b c : Rat) : PyData.eqv (rt a b c) (rt a b c) = true := by
  show (PyData.eqv (dr a) (dr a) && (PyData.eqv (dr b) (dr b) && (PyData.eqv (dr c) (dr c) && true))) = true
  rw [eqv_dr, eqv_dr, eqv_dr, decide_eq_true rfl, decide_eq_true rfl, decide_eq_true rfl]; rfl
theorem eqv_sorted (xs : List Nu) : PyData.eqv (.list ((xs.map Nu.d).mergeSort (PySem.W.dataLe false id))) (.list ((xs.map Nu.d).mergeSort (PySem.W.dataLe false id))) = true := eqv_list fun d hd => by
  rw [List.mem_mergeSort] at hd
  obtain ⟨x, _, rfl⟩ := List.mem_map.mp hd
  exact eqv_rt _ _ _
theorem atI_nu {zs : List Nu} {k : Nat} {i : Int} (hi : i = (k : Int)) (hk : k < zs.length) : atI (zs.map Nu.d) i = some (zs[k]).d := by
  subst hi
  have e : ixN (zs.map Nu.d).length ((k : Nat) : Int) = some k := by
    unfold ixN
    rw [if_pos (by omega), if_pos (by rw [List.length_map]; omega), Int.toNat_natCast]
  unfold atI
  rw [e]
  show (zs.map Nu.d)[k]? = _
  rw [List.getElem?_map, List.getElem?_eq_getElem hk]
  rfl
theorem ups_loop {s0 s1 s3 s4 s5 s6 s7 s8 s9 s10 : Sl} {zs : List Nu} (hz : Up zs) {QL : List D → Prop} (hQ : QL []) : ∀ (n o : Nat), o + n < zs.length →
    lcW (mgName 8) (eT (eOp fGt (eCallN 2 F__law_compare (aCons (eOp fIx (eVar 2) (eVar 8)) (aCons (eOp fIx (eVar 2) (eOp fAdd (eVar 8) (eC (.int 1)))) aNil))) (eC (.int 0)))) (eVar 8)
      [s0, s1, .va (.tuple (zs.map Nu.d)), s3, s4, s5, s6, s7, s8, s9, s10] ((List.range' o n).map fun t : Nat => PyData.int (0 + (t : Int))) [] QL
  | 0, o, _ => hQ
  | n + 1, o, ho => by
    rw [List.range'_succ, List.map_cons]
    refine w_lcC ?_
    placed_of0
    refine w_ixT (atI_nu (k := o) (by omega) (by omega)) ?_
    placed_of0
    refine w_ixT (atI_nu (k := o + 1) (by omega) (by omega)) ?_
    placed_of0
    refine nu_lcompare _ _ ?_
    have hle : zs[o].v ≤ zs[o + 1].v := List.pairwise_iff_getElem.mp hz o (o + 1) (by omega) (by omega) (by omega)
    placed_of0
    rw [decide_eq_false (by rw [sr_gt]; grind)]
    placed_of0
    exact ups_loop hz hQ n (o + 1) (by omega)
def rowsRest : MS := (sSeq (sAsg (eCallN 1 F_sorted_roots (aCons (eCall fList (aCons (eVar 1) aNil)) aNil)) (mgName 2)) (sSeq (sIf (mOr (mNot (eT (eUn (fIsi "tuple") (eVar 2)))) (mOr (eT (eOp fNe (eCall fSorted (aCons (eVar 2) aNil)) (eCall fSorted (aCons (eVar 1) aNil)))) (eT (eOp fNe (eLc (itR1 (aCons (eOp fSub (eCall fLen (aCons (eVar 2) aNil)) (eC (.int 1))) aNil)) [8] (mgName 8) (eT (eOp fGt (eCallN 2 F__law_compare (aCons (eOp fIx (eVar 2) (eVar 8)) (aCons (eOp fIx (eVar 2) (eOp fAdd (eVar 8) (eC (.int 1)))) aNil))) (eC (.int 0)))) (eVar 8)) (eLst aNil))))) (sRet (eC (.bool false))) sNext) (sSeq (sAsg (eCallN 2 F__law_pick (aCons (eVar 0) (aCons (eVar 1) aNil))) (mgName 3)) (sSeq (sAsg (eLc (itL (eVar 1)) [9] (mgName 9) mYes (eCallN 2 F__law_compare (aCons (eVar 9) (aCons (eVar 3) aNil)))) (mgName 4)) (sSeq (sIf (eT (eOp fNe (eCallN 2 F_rank_of (aCons (eCall fList (aCons (eVar 1) aNil)) (aCons (eVar 3) aNil))) (eTup (aCons (eCall fLen (aCons (eLc (itL (eVar 4)) [10] (mgName 10) (eT (eOp fLt (eVar 10) (eC (.int 0)))) (eC (.int 1))) aNil)) (aCons (eCall fLen (aCons (eLc (itL (eVar 4)) [10] (mgName 10) (eT (eOp fEq (eVar 10) (eC (.int 0)))) (eC (.int 1))) aNil)) aNil))))) (sRet (eC (.bool false))) sNext) (sSeq (sPar 5 6 (aCons (eLc (itL (eVar 1)) [9] (mgName 9) (eT (eOp fEq (eCallN 2 F__law_compare (aCons (eVar 9) (aCons (eOp fIx (eVar 2) (eC (.int 0))) aNil))) (eC (.int 0)))) (eVar 9)) (aCons (eLc (itL (eVar 1)) [9] (mgName 9) (eT (eOp fEq (eCallN 2 F__law_compare (aCons (eVar 9) (aCons (eOp fIx (eVar 2) (eOp fSub (eCall fLen (aCons (eVar 2) aNil)) (eC (.int 1)))) aNil))) (eC (.int 0)))) (eVar 9)) aNil))) (sSeq (sFor (itL (eVar 1)) (mgName 7) (sIf (eT (eOp fNe (eCallN 2 F_compare (aCons (eVar 3) (aCons (eVar 7) aNil))) (eCallN 2 F__law_compare (aCons (eVar 3) (aCons (eVar 7) aNil))))) (sRet (eC (.bool false))) sNext)) (sRet (eAnd (eOp fEq (eCallN 1 F_least_of (aCons (eCall fList (aCons (eVar 1) aNil)) aNil)) (eOp fIx (eVar 5) (eC (.int 0)))) (eOp fEq (eCallN 1 F_greatest_of (aCons (eCall fList (aCons (eVar 1) aNil)) aNil)) (eOp fIx (eVar 6) (eC (.int 0)))))))))))))
def kCnt (ns : List Int) (Q : D → Prop) : List D → Prop
  | [.int i] => Q (.int (ns.count i : Nat))
  | _ => False
theorem w_kCnt {ns : List Int} {i : Int} (q : Q (.int (ns.count i : Nat))) : kCnt ns Q [.int i] := q
theorem w_count {t : En → M (List D)} {ρ : En} {i : Nat} {xs : List D} {ns : List Int} (h : ρ[i]? = some (.va (.list xs))) (hn : intsOf xs = some ns) (q : t ρ (kCnt ns Q)) : eCount (eVar i) t ρ Q := by
  unfold eCount eVar
  rw [h]
  dsimp only
  rw [hn]
  refine cast ?_ q
  congr 1
theorem intsOf_map : ∀ ns : List Int, intsOf (ns.map PyData.int) = some ns
  | [] => rfl
  | n :: ns => by
    show (intsOf (ns.map PyData.int)).map (n :: ·) = _
    rw [intsOf_map ns]; rfl
noncomputable def sides (one : Nu) (xs : List Nu) : List Int := xs.map fun y => sr (y.v - one.v)
theorem rank_loop {s0 s2 : Sl} (one : Nu) {QL : List D → Prop} : ∀ (ys : List Nu) (acc : List Int) (s3 : Sl), QL ((acc ++ sides one ys).map PyData.int) →
    lcW (mgName 3) mYes (eCallN 2 F_compare (aCons (eVar 3) (aCons (eVar 1) aNil))) [s0, .va one.d, s2, s3] (ys.map Nu.d) (acc.map PyData.int) QL
  | [], acc, s3, h => by
    refine w_lcN ?_
    unfold sides at h
    rw [List.map_nil, List.append_nil] at h
    exact h
  | y :: ys, acc, s3, h => by
    rw [List.map_cons]
    refine w_lcC ?_
    placed_of0
    refine nu_compare y one ?_
    have := rank_loop (s0 := s0) (s2 := s2) one (QL := QL) ys (acc ++ [sr (y.v - one.v)]) s3 (by unfold sides at *; rw [List.append_assoc]; exact h)
    rw [List.map_append] at this
    exact this
theorem rank_ok {one : Nu} {xs : List Nu} (hl : xs.length < 1000) (h : Q (.tuple [.int ((sides one xs).count (-1) : Nat), .int ((sides one xs).count 0 : Nat)])) : F_rank_of [.list (xs.map Nu.d), one.d] Q := by
  unfold F_rank_of
  placed_of0
  refine w_and (by rw [List.length_map]; omega) ?_
  refine rank_loop one xs [] _ ?_
  rw [List.nil_append]
  placed_of0
  refine w_count rfl (intsOf_map _) ?_
  placed_of0
  refine w_kCnt ?_
  placed_of0
  refine w_count rfl (intsOf_map _) ?_
  placed_of0
  refine w_kCnt ?_
  placed_of0
  exact h
theorem side_loop {s0 s1 s2 s4 s5 s6 s7 s8 s10 : Sl} (one : Nu) {QL : List D → Prop} : ∀ (ys : List Nu) (acc : List Int) (s9 : Sl), QL ((acc ++ sides one ys).map PyData.int) →
    lcW (mgName 9) mYes (eCallN 2 F__law_compare (aCons (eVar 9) (aCons (eVar 3) aNil))) [s0, s1, s2, .va one.d, s4, s5, s6, s7, s8, s9, s10] (ys.map Nu.d) (acc.map PyData.int) QL
  | [], acc, s9, h => by
    refine w_lcN ?_
    unfold sides at h
    rw [List.map_nil, List.append_nil] at h
    exact h
  | y :: ys, acc, s9, h => by
    rw [List.map_cons]
    refine w_lcC ?_
    placed_of0
    refine nu_lcompare y one ?_
    have := side_loop (s0 := s0) (s1 := s1) (s2 := s2) (s4 := s4) (s5 := s5) (s6 := s6) (s7 := s7) (s8 := s8) (s10 := s10) one (QL := QL) ys (acc ++ [sr (y.v - one.v)]) s9 (by unfold sides at *; rw [List.append_assoc]; exact h)
    rw [List.map_append] at this
    exact this
def ones (n : Nat) : List D := List.replicate n (.int 1)
theorem ones_add (n : Nat) : ones (n + 1) = ones n ++ [.int 1] := List.replicate_succ'
theorem less_loop {s0 s1 s2 s3 s4 s5 s6 s7 s8 s9 : Sl} {QL : List D → Prop} : ∀ (ns : List Int) (k : Nat) (s10 : Sl), QL (ones (k + ns.countP fun i => decide (i < 0))) →
    lcW (mgName 10) (eT (eOp fLt (eVar 10) (eC (.int 0)))) (eC (.int 1)) [s0, s1, s2, s3, s4, s5, s6, s7, s8, s9, s10] (ns.map PyData.int) (ones k) QL
  | [], k, s10, h => h
  | i :: ns, k, s10, h => by
    rw [List.map_cons]
    refine w_lcC ?_
    placed_of0
    by_cases e : i < 0
    · rw [decide_eq_true e]
      placed_of0
      rw [← ones_add]
      refine less_loop ns (k + 1) _ ?_
      rw [List.countP_cons_of_pos (by rw [decide_eq_true e])] at h
      rw [show k + 1 + _ = k + (_ + 1) from by rw [Nat.add_assoc, Nat.add_comm 1]]
      exact h
    · rw [decide_eq_false e]
      placed_of0
      refine less_loop ns k _ ?_
      rw [List.countP_cons_of_neg (by rw [decide_eq_false e]; decide)] at h
      exact h
theorem same_loop {s0 s1 s2 s3 s4 s5 s6 s7 s8 s9 : Sl} {QL : List D → Prop} : ∀ (ns : List Int) (k : Nat) (s10 : Sl), QL (ones (k + ns.countP fun i => decide (i = 0))) →
    lcW (mgName 10) (eT (eOp fEq (eVar 10) (eC (.int 0)))) (eC (.int 1)) [s0, s1, s2, s3, s4, s5, s6, s7, s8, s9, s10] (ns.map PyData.int) (ones k) QL
  | [], k, s10, h => h
  | i :: ns, k, s10, h => by
    rw [List.map_cons]
    refine w_lcC ?_
    placed_of0
    rw [eqv_int]
    by_cases e : i = 0
    · rw [decide_eq_true e]
      placed_of0
      rw [← ones_add]
      refine same_loop ns (k + 1) _ ?_
      rw [List.countP_cons_of_pos (by rw [decide_eq_true e])] at h
      rw [show k + 1 + _ = k + (_ + 1) from by rw [Nat.add_assoc, Nat.add_comm 1]]
      exact h
    · rw [decide_eq_false e]
      placed_of0
      refine same_loop ns k _ ?_
      rw [List.countP_cons_of_neg (by rw [decide_eq_false e]; decide)] at h
      exact h
noncomputable def eqs (z : Nu) (xs : List Nu) : List Nu := xs.filter fun y => decide (sr (y.v - z.v) = 0)
theorem least_filt {s0 s1 s3 s4 s5 s6 s7 s8 s10 : Sl} {zs : List Nu} {z : Nu} (hz : atI (zs.map Nu.d) 0 = some z.d) {QL : List D → Prop} : ∀ (ys acc : List Nu) (s9 : Sl), QL ((acc ++ eqs z ys).map Nu.d) →
    lcW (mgName 9) (eT (eOp fEq (eCallN 2 F__law_compare (aCons (eVar 9) (aCons (eOp fIx (eVar 2) (eC (.int 0))) aNil))) (eC (.int 0)))) (eVar 9) [s0, s1, .va (.tuple (zs.map Nu.d)), s3, s4, s5, s6, s7, s8, s9, s10] (ys.map Nu.d) (acc.map Nu.d) QL
  | [], acc, s9, h => by
    refine w_lcN ?_
    unfold eqs at h
    rw [List.filter_nil, List.append_nil] at h
    exact h
  | y :: ys, acc, s9, h => by
    rw [List.map_cons]
    refine w_lcC ?_
    placed_of0
    refine w_ixT hz ?_
    placed_of0
    refine nu_lcompare y z ?_
    placed_of0
    rw [eqv_int]
    unfold eqs at h
    by_cases e : sr (y.v - z.v) = 0
    · rw [decide_eq_true e]
      placed_of0
      have := least_filt (s0 := s0) (s1 := s1) (s3 := s3) (s4 := s4) (s5 := s5) (s6 := s6) (s7 := s7) (s8 := s8) (s10 := s10) hz (QL := QL) ys (acc ++ [y]) s9 (by rw [List.filter_cons_of_pos (p := fun y : Nu => decide (sr (y.v - z.v) = 0)) (decide_eq_true e)] at h; rw [List.append_assoc]; exact h)
      rw [List.map_append] at this
      exact this
    · rw [decide_eq_false e]
      placed_of0
      exact least_filt hz ys acc _ (by rw [List.filter_cons_of_neg (p := fun y : Nu => decide (sr (y.v - z.v) = 0)) (by rw [decide_eq_false e]; decide)] at h; exact h)
theorem most_filt {s0 s1 s3 s4 s5 s6 s7 s8 s10 : Sl} {zs : List Nu} {z : Nu} (hz : atI (zs.map Nu.d) ((zs.map Nu.d).length - 1 : Int) = some z.d) {QL : List D → Prop} : ∀ (ys acc : List Nu) (s9 : Sl), QL ((acc ++ eqs z ys).map Nu.d) →
    lcW (mgName 9) (eT (eOp fEq (eCallN 2 F__law_compare (aCons (eVar 9) (aCons (eOp fIx (eVar 2) (eOp fSub (eCall fLen (aCons (eVar 2) aNil)) (eC (.int 1)))) aNil))) (eC (.int 0)))) (eVar 9) [s0, s1, .va (.tuple (zs.map Nu.d)), s3, s4, s5, s6, s7, s8, s9, s10] (ys.map Nu.d) (acc.map Nu.d) QL
  | [], acc, s9, h => by
    refine w_lcN ?_
    unfold eqs at h
    rw [List.filter_nil, List.append_nil] at h
    exact h
  | y :: ys, acc, s9, h => by
    rw [List.map_cons]
    refine w_lcC ?_
    placed_of0
    refine w_ixT hz ?_
    placed_of0
    refine nu_lcompare y z ?_
    placed_of0
    rw [eqv_int]
    unfold eqs at h
    by_cases e : sr (y.v - z.v) = 0
    · rw [decide_eq_true e]
      placed_of0
      have := most_filt (s0 := s0) (s1 := s1) (s3 := s3) (s4 := s4) (s5 := s5) (s6 := s6) (s7 := s7) (s8 := s8) (s10 := s10) hz (QL := QL) ys (acc ++ [y]) s9 (by rw [List.filter_cons_of_pos (p := fun y : Nu => decide (sr (y.v - z.v) = 0)) (decide_eq_true e)] at h; rw [List.append_assoc]; exact h)
      rw [List.map_append] at this
      exact this
    · rw [decide_eq_false e]
      placed_of0
      exact most_filt hz ys acc _ (by rw [List.filter_cons_of_neg (p := fun y : Nu => decide (sr (y.v - z.v) = 0)) (by rw [decide_eq_false e]; decide)] at h; exact h)
theorem cmp_loop {s0 s1 s2 s4 s5 s6 s8 s9 s10 : Sl} (one : Nu) {P : Po} : ∀ (ys : List Nu) (s7 : Sl), (∀ s7, P.nx [s0, s1, s2, .va one.d, s4, s5, s6, s7, s8, s9, s10]) →
    forW (mgName 7) (sIf (eT (eOp fNe (eCallN 2 F_compare (aCons (eVar 3) (aCons (eVar 7) aNil))) (eCallN 2 F__law_compare (aCons (eVar 3) (aCons (eVar 7) aNil))))) (sRet (eC (.bool false))) sNext) (ys.map Nu.d) [s0, s1, s2, .va one.d, s4, s5, s6, s7, s8, s9, s10] P
  | [], s7, h => by
    obtain ⟨nx, rt, bk, ct⟩ := P
    exact h s7
  | y :: ys, s7, h => by
    obtain ⟨nx, rt, bk, ct⟩ := P
    rw [List.map_cons]
    placed_of0
    refine nu_compare one y ?_
    placed_of0
    refine nu_lcompare one y ?_
    placed_of0
    rw [eqv_int, decide_eq_true rfl]
    placed_of0
    exact cmp_loop one ys _ h
theorem eqs_head {pre post : List Nu} {m z : Nu} (h1 : ∀ y ∈ pre, m.v ≠ y.v) (h2 : z.v = m.v) : ∃ r, eqs z (pre ++ m :: post) = m :: r := by
  unfold eqs
  rw [List.filter_append, List.filter_cons_of_pos (p := fun y : Nu => decide (sr (y.v - z.v) = 0)) (decide_eq_true (by rw [h2, show m.v - m.v = 0 by grind, sr_zero])), filter_all]
  · exact ⟨_, rfl⟩
  · intro y hy
    refine decide_eq_false fun e => ?_
    rcases sr_cases (y.v - z.v) with ⟨e1, _⟩ | ⟨_, e2⟩ | ⟨e1, _⟩
    · omega
    · exact h1 y hy (by rw [h2] at e2; grind)
    · omega
theorem count_m1 : ∀ (xs : List Nu) (one : Nu), (sides one xs).count (-1) = (sides one xs).countP fun i => decide (i < 0) := by
  intro xs one
  unfold sides List.count
  rw [List.countP_map, List.countP_map]
  refine List.countP_congr fun y _ => ?_
  show ((sr (y.v - one.v) == -1) = true) ↔ (decide (sr (y.v - one.v) < 0) = true)
  rw [beq_iff_eq, decide_eq_true_iff]
  rcases sr_cases (y.v - one.v) with ⟨e, _⟩ | ⟨e, _⟩ | ⟨e, _⟩ <;> rw [e] <;> decide
theorem count_0 : ∀ (xs : List Nu) (one : Nu), (sides one xs).count 0 = (sides one xs).countP fun i => decide (i = 0) := by
  intro xs one
  unfold sides List.count
  rw [List.countP_map, List.countP_map]
  refine List.countP_congr fun y _ => ?_
  show ((sr (y.v - one.v) == 0) = true) ↔ (decide (sr (y.v - one.v) = 0) = true)
  rw [beq_iff_eq, decide_eq_true_iff]
theorem len_ones (n : Nat) : (ones n).length = n := List.length_replicate
/-- the first of zs (in order) is as small as the least found -/
theorem first_least {x : Nu} {xs zs : List Nu} {z : Nu} (hz : Up zs) (hp : zs.Perm (x :: xs)) (h0 : zs[0]? = some z) : ∃ r, eqs z (x :: xs) = lst 1 x xs :: r := by
  obtain ⟨p, q, e, h1, h2⟩ := lst_spec 1 (.inl rfl) xs [] [] x (fun _ h => by simp at h) (fun _ h => by simp at h)
  rw [List.nil_append, List.nil_append] at e
  generalize lst 1 x xs = m at *
  rw [e]
  have hm : m ∈ zs := hp.mem_iff.mpr (by rw [e]; simp)
  have hall : ∀ y ∈ x :: xs, m.v ≤ y.v := fun y hy => by
    rw [e, List.mem_append, List.mem_cons] at hy
    rcases hy with hy | rfl | hy
    · have := h1 y hy
      rw [Int.one_mul, sr_lt] at this
      grind
    · grind
    · have := h2 y hy
      rw [Int.one_mul, sr_le] at this
      grind
  have hzm : z ∈ x :: xs := hp.mem_iff.mp (List.mem_of_getElem? h0)
  refine eqs_head (fun y hy => ?_) ?_
  · have := h1 y hy
    rw [Int.one_mul, sr_lt] at this
    intro z
    rw [z] at this
    grind
  · have a1 := hall z hzm
    have a2 : z.v ≤ m.v := by
      cases zs with
      | nil => simp at hm
      | cons w ws =>
        rw [List.getElem?_cons_zero] at h0
        cases h0
        rcases List.mem_cons.mp hm with rfl | hm
        · grind
        · exact (List.pairwise_cons.mp hz).1 m hm
    grind
theorem last_most {x : Nu} {xs zs : List Nu} {z : Nu} (hz : Up zs) (hp : zs.Perm (x :: xs)) (h0 : zs.getLast? = some z) : ∃ r, eqs z (x :: xs) = lst (-1) x xs :: r := by
  obtain ⟨p, q, e, h1, h2⟩ := lst_spec (-1) (.inr rfl) xs [] [] x (fun _ h => by simp at h) (fun _ h => by simp at h)
  rw [List.nil_append, List.nil_append] at e
  generalize lst (-1) x xs = m at *
  rw [e]
  have hm : m ∈ zs := hp.mem_iff.mpr (by rw [e]; simp)
  have k1 : ∀ {a b : Nu}, -1 * sr (a.v - b.v) < 0 → b.v < a.v := fun {a b} h => by
    have h' : 0 < sr (a.v - b.v) := by omega
    rw [sr_gt] at h'
    grind
  have k2 : ∀ {a b : Nu}, -1 * sr (a.v - b.v) ≤ 0 → b.v ≤ a.v := fun {a b} h => by
    have h' : ¬ sr (a.v - b.v) < 0 := by omega
    rw [sr_lt] at h'
    grind
  have hall : ∀ y ∈ x :: xs, y.v ≤ m.v := fun y hy => by
    rw [e, List.mem_append, List.mem_cons] at hy
    rcases hy with hy | rfl | hy
    · have := k1 (h1 y hy)
      grind
    · grind
    · exact k2 (h2 y hy)
  have hzm : z ∈ x :: xs := hp.mem_iff.mp (List.mem_of_getLast? h0)
  refine eqs_head (fun y hy => ?_) ?_
  · have := k1 (h1 y hy)
    intro z
    rw [z] at this
    grind
  · have a1 := hall z hzm
    have a2 : m.v ≤ z.v := by
      obtain ⟨ws, rfl⟩ := List.getLast?_eq_some_iff.mp h0
      rcases List.mem_append.mp hm with hm | hm
      · exact (List.pairwise_append.mp hz).2.2 m hm z (by simp)
      · rw [List.mem_singleton] at hm
        subst hm
        grind
    grind
theorem rest_ok {s2 s3 s4 s5 s6 s7 s8 s9 s10 : Sl} (x : Nu) (xs : List Nu) (hl : xs.length ≤ 10) (h : Q (.bool true)) : rowsRest [.va wD, .va (.list ((x :: xs).map Nu.d)), s2, s3, s4, s5, s6, s7, s8, s9, s10] { nx := fun _ => Q .none, rt := Q, bk := fun _ => False, ct := fun _ => False } := by
  unfold rowsRest
  placed_of0
  refine sorted_roots_ok (by rw [List.length_cons]; omega) fun zs hz hp => ?_
  have hzl : zs.length = xs.length + 1 := by rw [hp.length_eq, List.length_cons]
  placed_of0
  refine w_sortedT (okS_nu zs (by omega)) ?_
  placed_of0
  refine w_sortedL (okS_nu (x :: xs) (by rw [List.length_cons]; omega)) ?_
  rw [sort_same hp]
  refine w_ne (okD_sorted _) (okD_sorted _) ?_
  rw [eqv_sorted]
  placed_of0
  rw [List.length_map, hzl]
  refine w_kR1 (by omega) (by omega) ?_
  rw [show ((xs.length + 1 : Nat) : Int) - 1 = ((xs.length : Nat) : Int) by omega, rngD_range']
  refine w_and (by rw [List.length_map, List.length_range']; omega) ?_
  refine ups_loop hz ?_ xs.length 0 (by omega)
  placed_of0
  refine pick_ok (by rw [List.length_map, List.length_cons]; omega) fun d hd => ?_
  obtain ⟨one, _, rfl⟩ := List.mem_map.mp hd
  placed_of0
  refine w_and (by rw [List.length_map, List.length_cons]; omega) ?_
  refine side_loop one (x :: xs) [] _ ?_
  rw [List.nil_append]
  placed_of0
  refine rank_ok (by rw [List.length_cons]; omega) ?_
  placed_of0
  refine w_and (by rw [List.length_map]; unfold sides; rw [List.length_map, List.length_cons]; omega) ?_
  refine less_loop (sides one (x :: xs)) 0 _ ?_
  placed_of0
  refine w_and (by rw [List.length_map]; unfold sides; rw [List.length_map, List.length_cons]; omega) ?_
  refine same_loop (sides one (x :: xs)) 0 _ ?_
  placed_of0
  rw [len_ones, len_ones, Nat.zero_add, Nat.zero_add, ← count_m1, ← count_0]
  rw [show PyData.eqv (.tuple [.int ((sides one (x :: xs)).count (-1) : Nat), .int ((sides one (x :: xs)).count 0 : Nat)]) (.tuple [.int ((sides one (x :: xs)).count (-1) : Nat), .int ((sides one (x :: xs)).count 0 : Nat)]) = true from by
    show (PyData.eqv (.int _) (.int _) && (PyData.eqv (.int _) (.int _) && true)) = true
    rw [eqv_int, eqv_int, decide_eq_true rfl, decide_eq_true rfl]; rfl]
  placed_of0
  obtain ⟨z0, hz0⟩ : ∃ z, zs[0]? = some z := ⟨zs[0], List.getElem?_eq_getElem (by omega)⟩
  obtain ⟨z1, hz1⟩ : ∃ z, zs.getLast? = some z := by
    cases zs with
    | nil => simp at hzl
    | cons a as => exact ⟨_, List.getLast?_eq_some_getLast (by simp)⟩
  obtain ⟨r0, er0⟩ := first_least hz hp hz0
  obtain ⟨r1, er1⟩ := last_most hz hp hz1
  refine w_and (by rw [List.length_map, List.length_cons]; omega) ?_
  refine least_filt (zs := zs) (z := z0) ?_ (x :: xs) [] _ ?_
  · cases zs with
    | nil => simp at hzl
    | cons a as =>
      rw [List.getElem?_cons_zero] at hz0
      cases hz0
      exact atI_c0 _ _
  rw [List.nil_append, er0]
  placed_of0
  refine w_and (by rw [List.length_map, List.length_cons]; omega) ?_
  refine most_filt (zs := zs) (z := z1) ?_ (x :: xs) [] _ ?_
  · have e : ((zs.map Nu.d).length - 1 : Int) = ((xs.length : Nat) : Int) := by rw [List.length_map, hzl]; omega
    rw [List.getLast?_eq_getElem?, hzl, Nat.add_sub_cancel] at hz1
    obtain ⟨hlt, rfl⟩ := List.getElem?_eq_some_iff.mp hz1
    exact atI_nu e hlt
  rw [List.nil_append, er1]
  placed_of0
  refine cmp_loop one (x :: xs) _ fun s7 => ?_
  placed_of0
  refine least_ok ?_
  placed_of0
  refine w_ixL (atI_c0 _ _) ?_
  placed_of0
  rw [eqv_rt]
  placed_of0
  refine greatest_ok ?_
  placed_of0
  refine w_ixL (atI_c0 _ _) ?_
  placed_of0
  rw [eqv_rt]
  exact h
theorem rows_ok (h : Q (.bool true)) : F__law_rows [wD] Q := by
  unfold F__law_rows
  placed_of0
  refine next_ok (by decide) fun i i0 i1 => ?_
  placed_of0
  refine w_kR1 (by omega) (by omega) ?_
  have hlen : (rngD 0 (1 + i).toNat).length = (1 + i).toNat := by unfold rngD; rw [List.length_map, List.length_range]
  refine w_and (by rw [hlen]; omega) ?_
  refine draw_rows _ [] _ fun xs hx => ?_
  rw [hlen, List.length_nil, Nat.zero_add] at hx
  obtain ⟨x, xs, rfl⟩ : ∃ x ys, xs = x :: ys := by
    cases xs with
    | nil => rw [List.length_nil] at hx; omega
    | cons x ys => exact ⟨x, ys, rfl⟩
  placed_of0
  refine next_ok (by decide) fun j j0 j1 => ?_
  placed_of0
  rw [eqv_int]
  have hl : xs.length ≤ 9 := by rw [List.length_cons] at hx; omega
  by_cases hj : j = 0
  · rw [decide_eq_true hj]
    rw [List.map_cons]
    placed_of0
    · show (x.d :: xs.map Nu.d).length + 1 ≤ 100000
      rw [List.length_cons, List.length_map]; omega
    kfm_turns
    have := rest_ok (Q := Q) (s2 := .no) (s3 := .no) (s4 := .no) (s5 := .no) (s6 := .no) (s7 := .no) (s8 := .no) (s9 := .no) (s10 := .no) x (xs ++ [x]) (by simp; omega) h
    rw [List.map_cons, List.map_append] at this
    exact this
  · rw [decide_eq_false hj]
    kfm_turns
    exact rest_ok x xs (by omega) h
end

section
variable {Q : D → Prop}
theorem num_no {d : D} {a : String} (h : tyD d = some a) (hn : isD a "int" = false ∨ isD a "bool" = true) (q : Q (.bool false)) : F_is_number [d] Q := by
  unfold F_is_number
  placed_of0
  refine w_isi h ?_
  cases e : isD a "int" with
  | false => placed_of0; exact q
  | true =>
    placed_of0
    refine w_isi h ?_
    rcases hn with hn | hn
    · rw [e] at hn; cases hn
    · rw [hn]
      placed_of0
      exact q
theorem bf_none (q : Q (.bool false)) : F_is_fraction [.none] Q := by unfold F_is_fraction; placed_of0; exact q
theorem bf_10 (q : Q (.bool false)) : F_is_fraction [.tuple [.int 1, .int 0]] Q := by
  unfold F_is_fraction; placed_of0; refine sp_is_number _ ?_; placed_of0; refine sp_is_number _ ?_; placed_of0; exact q
theorem bf_24 (q : Q (.bool false)) : F_is_fraction [.tuple [.int 2, .int 4]] Q := by
  unfold F_is_fraction; placed_of0; refine sp_is_number _ ?_; placed_of0; refine sp_is_number _ ?_; placed_of0; refine sp_common ?_; placed_of0; exact q
theorem bf_1m (q : Q (.bool false)) : F_is_fraction [.tuple [.int 1, .int (-1)]] Q := by
  unfold F_is_fraction; placed_of0; refine sp_is_number _ ?_; placed_of0; refine sp_is_number _ ?_; placed_of0; exact q
theorem bf_t1 (q : Q (.bool false)) : F_is_fraction [.tuple [.bool true, .int 1]] Q := by
  unfold F_is_fraction; placed_of0; refine num_no rfl (.inr rfl) ?_; placed_of0; exact q
theorem bf_111 (q : Q (.bool false)) : F_is_fraction [.tuple [.int 1, .int 1, .int 1]] Q := by
  unfold F_is_fraction; placed_of0; exact q
theorem bf_l11 (q : Q (.bool false)) : F_is_fraction [.list [.int 1, .int 1]] Q := by
  unfold F_is_fraction; placed_of0; exact q
theorem bf_s1 (q : Q (.bool false)) : F_is_fraction [.tuple [.str (Str.ofString "1"), .int 1]] Q := by
  unfold F_is_fraction; placed_of0; refine num_no rfl (.inl rfl) ?_; placed_of0; exact q
theorem bf_tt (q : Q (.bool false)) : F_is_fraction [.tuple [.tuple [.int 1, .int 1], .tuple [.int 1, .int 1]]] Q := by
  unfold F_is_fraction; placed_of0; refine num_no rfl (.inl rfl) ?_; placed_of0; exact q
theorem bf_0 (q : Q (.bool false)) : F_is_fraction [.int 0] Q := by unfold F_is_fraction; placed_of0; exact q
theorem fr (i j : Int) (hj : 1 ≤ j) (hg : Int.gcd i j = 1) (h : Q (.bool true)) : F_is_fraction [.tuple [.int i, .int j]] Q := by
  unfold F_is_fraction; placed_of0; refine sp_is_number _ ?_; placed_of0; refine sp_is_number _ ?_; placed_of0
  rw [decide_eq_true hj]
  placed_of0
  refine sp_common ?_
  rw [hg]
  placed_of0
  exact h
theorem br_none (q : Q (.bool false)) : F_is_root [.none] Q := by unfold F_is_root; placed_of0; exact q
theorem br_2 {d e : D} (q : Q (.bool false)) : F_is_root [.tuple [d, e]] Q := by unfold F_is_root; placed_of0; exact q
theorem br_l {ds : List D} (q : Q (.bool false)) : F_is_root [.list ds] Q := by unfold F_is_root; placed_of0; exact q
theorem br_a (q : Q (.bool false)) : F_is_root [.tuple [.tuple [.int 1, .int 1], .tuple [.int 0, .int 1], .tuple [.int 2, .int 1]]] Q := by
  unfold F_is_root; placed_of0; refine fr _ _ (by decide) (by decide) ?_; placed_of0; refine fr _ _ (by decide) (by decide) ?_; placed_of0; refine fr _ _ (by decide) (by decide) ?_; placed_of0; exact q
theorem br_b (q : Q (.bool false)) : F_is_root [.tuple [.tuple [.int 1, .int 1], .tuple [.int 1, .int 1], .tuple [.int 0, .int 1]]] Q := by
  unfold F_is_root; placed_of0; refine fr _ _ (by decide) (by decide) ?_; placed_of0; refine fr _ _ (by decide) (by decide) ?_; placed_of0; refine fr _ _ (by decide) (by decide) ?_; placed_of0; exact q
theorem br_c (q : Q (.bool false)) : F_is_root [.tuple [.tuple [.int 1, .int 1], .tuple [.int 1, .int 1], .tuple [.int (-2), .int 1]]] Q := by
  unfold F_is_root; placed_of0; refine fr _ _ (by decide) (by decide) ?_; placed_of0; refine fr _ _ (by decide) (by decide) ?_; placed_of0; refine fr _ _ (by decide) (by decide) ?_; placed_of0; exact q
theorem br_d (q : Q (.bool false)) : F_is_root [.tuple [.tuple [.int 1, .int 1], .tuple [.int 0, .int 1], .int 0]] Q := by
  unfold F_is_root; placed_of0; refine fr _ _ (by decide) (by decide) ?_; placed_of0; refine fr _ _ (by decide) (by decide) ?_; placed_of0; refine bf_0 ?_; placed_of0; exact q
theorem turns_loop {s0 s3 : Sl} {P : Po} : ∀ (ds : List D) (s2 : Sl), (∀ s2, P.nx [s0, .va wD, s2, s3]) →
    forW (mgName 2) (sIf (mOr (mNot (eT (eCallN 1 F__law_fractions (aCons (eVar 1) aNil)))) (mOr (mNot (eT (eCallN 1 F__law_sums (aCons (eVar 1) aNil)))) (mOr (mNot (eT (eCallN 1 F__law_parts (aCons (eVar 1) aNil)))) (mNot (eT (eCallN 1 F__law_rows (aCons (eVar 1) aNil))))))) (sRet (eC (.bool false))) sNext) ds [s0, .va wD, s2, s3] P
  | [], s2, h => by
    obtain ⟨nx, rt, bk, ct⟩ := P
    exact h s2
  | d :: ds, s2, h => by
    obtain ⟨nx, rt, bk, ct⟩ := P
    placed_of0
    refine fractions_ok ?_
    placed_of0
    refine sums_ok ?_
    placed_of0
    refine parts_ok ?_
    placed_of0
    refine rows_ok ?_
    placed_of0
    exact turns_loop ds _ h
theorem hs_law : ∀ ns : List Int, ns.length ≤ 63 → R_law (env0 4 [scr ns, .dict []]) { nx := fun _ => False, rt := fun d => d = .bool true, bk := fun _ => False, ct := fun _ => False } := by
  intro ns hn
  rw [show env0 4 [scr ns, .dict []] = [.va (scr ns), .va wD, .no, .no] from rfl]
  unfold R_law
  kfm_turns
  tb_rel
  kfm_turns
  refine turns_loop _ _ fun s2 => ?_
  placed_of0
  refine bf_none ?_
  placed_of0
  refine bf_10 ?_
  placed_of0
  refine bf_24 ?_
  placed_of0
  refine bf_1m ?_
  placed_of0
  refine bf_t1 ?_
  placed_of0
  refine bf_111 ?_
  placed_of0
  refine bf_l11 ?_
  placed_of0
  refine bf_s1 ?_
  placed_of0
  refine bf_tt ?_
  placed_of0
  refine br_none ?_
  placed_of0
  refine br_2 ?_
  placed_of0
  refine br_a ?_
  placed_of0
  refine br_b ?_
  placed_of0
  refine br_c ?_
  placed_of0
  refine br_l ?_
  placed_of0
  refine br_d ?_
  placed_of0
  rfl
/-! ### the draws -/
local macro_rules | `(tactic| pv_isi_meta) => `(tactic| (show (_ : Int) ≠ 0; decide))
theorem w_ixD {ns : List Int} {x : Int} {d : D} (h : atI (ns.map PyData.int) x = some d) (q : Q d) : fIx (scr ns) (.int x) Q := by
  show (match atI (ns.map PyData.int) x with | some d => Q d | none => False)
  rw [h]; exact q
theorem w_lenD {ns : List Int} (q : Q (.int ns.length)) : fLen [scr ns] Q := by
  show Q (.int ((ns.map PyData.int).length : Nat))
  rw [List.length_map]; exact q
theorem atI_rng {ns : List Int} {k : Nat} (h : k < ns.length) : atI (ns.map PyData.int) (0 + (k : Int)) = some (.int (ns[k])) := by
  have e : ixN (ns.map PyData.int).length (0 + (k : Int)) = some k := by
    unfold ixN
    rw [if_pos (by omega), if_pos (by rw [List.length_map]; omega), Int.zero_add, Int.toNat_natCast]
  unfold atI
  rw [e]
  show (ns.map PyData.int)[k]? = _
  rw [List.getElem?_map, List.getElem?_eq_getElem h]
  rfl
theorem digits_loop {s0 s1 s3 s4 s5 : Sl} {P : Po} : ∀ (ds : List D) (ms : List Int) (r : Int) (s7 : Sl), ms.length + ds.length < 90000 → (∀ (ms' : List Int) (r : Int) (s7 : Sl), ms'.length ≤ ms.length + ds.length → P.nx [s0, s1, .ow (ms'.map PyData.int), s3, s4, s5, .va (.int r), s7]) →
    forW (mgName 7) (sIf (eT (eOp fGt (eVar 6) (eC (.int 0)))) (sSeq (sApp 2 (aCons (eOp fMod (eCall fInt (aCons (eVar 6) aNil)) (eC (.int 997))) aNil)) (sAsg (eOp fDiv (eVar 6) (eC (.int 997))) (mgName 6))) sNext) ds [s0, s1, .ow (ms.map PyData.int), s3, s4, s5, .va (.int r), s7] P
  | [], ms, r, s7, hl, h => by
    obtain ⟨nx, rt, bk, ct⟩ := P
    exact h ms r s7 (by rw [List.length_nil]; omega)
  | d :: ds, ms, r, s7, hl, h => by
    obtain ⟨nx, rt, bk, ct⟩ := P
    rw [List.length_cons] at hl
    placed_of0
    by_cases e : 0 < r
    · rw [decide_eq_true e]
      placed_of0
      refine w_kApp (by rw [List.length_map]; omega) (show _ = [s0, s1, .ow ((ms ++ [r.fmod 997]).map PyData.int), s3, s4, s5, .va (.int r), .va d] by rw [List.map_append]; rfl) ?_
      placed_of0
      · exact ⟨by decide, by decide⟩
      placed_of0
      exact digits_loop ds (ms ++ [r.fmod 997]) _ _ (by rw [List.length_append, List.length_singleton]; omega) fun ms' r s7 h' => h ms' r s7 (by rw [List.length_append, List.length_singleton] at h'; rw [List.length_cons]; omega)
    · rw [decide_eq_false e]
      placed_of0
      exact digits_loop ds ms r _ (by omega) fun ms' r s7 h' => h ms' r s7 (by rw [List.length_cons]; omega)
def drawBody : MS := (sSeq (sAsg (eCall fAbs (aCons (eCall fInt (aCons (eOp fIx (eVar 0) (eVar 4)) aNil)) aNil)) (mgName 5)) (sSeq (sAsg (eOp fMod (eCall fInt (aCons (eOp fAdd (eOp fAdd (eOp fMul (eVar 3) (eC (.int 48271))) (eOp fMod (eVar 5) (eC (.int 1000003)))) (eVar 4)) aNil)) (eC (.int 65537))) (mgName 3)) (sSeq (sAsg (eC (.int 0)) (mgName 6)) (sSeq (sIf (eT (eOp fGe (eVar 5) (eOp fPow (eC (.int 10)) (eC (.int 18))))) (sAsg (eVar 5) (mgName 6)) (sSeq (sApp 2 (aCons (eOp fMod (eCall fInt (aCons (eVar 5) aNil)) (eC (.int 997))) aNil)) (sApp 2 (aCons (eOp fMod (eOp fMod (eCall fInt (aCons (eOp fAdd (eOp fMul (eVar 3) (eC (.int 69621))) (eC (.int 5))) aNil)) (eC (.int 65521))) (eC (.int 997))) aNil)))) (sFor (itR1 (aCons (eC (.int 60)) aNil)) (mgName 7) (sIf (eT (eOp fGt (eVar 6) (eC (.int 0)))) (sSeq (sApp 2 (aCons (eOp fMod (eCall fInt (aCons (eVar 6) aNil)) (eC (.int 997))) aNil)) (sAsg (eOp fDiv (eVar 6) (eC (.int 997))) (mgName 6))) sNext))))))
theorem fmod_bd (x : Int) {y : Int} (hy : 0 < y) : 0 ≤ x.fmod y ∧ x.fmod y < y := by
  refine ⟨?_, Int.fmod_lt_of_pos _ hy⟩
  rw [Int.fmod_eq_emod_of_nonneg _ (by omega)]
  exact Int.emod_nonneg _ (by omega)
theorem draw_loop {ns : List Int} {s1 : Sl} {P : Po} : ∀ (n k : Nat) (ms : List Int) (mx : Int) (s4 s5 s6 s7 : Sl), k + n = ns.length → ms.length + 62 * n < 80000 → 0 ≤ mx → mx < 65537 →
    (∀ (ms' : List Int) (mx : Int) (s4 s5 s6 s7 : Sl), ms'.length ≤ ms.length + 62 * n → 0 ≤ mx → mx < 65537 → P.nx [.va (scr ns), s1, .ow (ms'.map PyData.int), .va (.int mx), s4, s5, s6, s7]) →
    forW (mgName 4) drawBody ((List.range' k n).map fun i : Nat => PyData.int (0 + (i : Int))) [.va (scr ns), s1, .ow (ms.map PyData.int), .va (.int mx), s4, s5, s6, s7] P
  | 0, k, ms, mx, s4, s5, s6, s7, hk, hl, m0, m1, h => by
    obtain ⟨nx, rt, bk, ct⟩ := P
    exact h ms mx s4 s5 s6 s7 (by omega) m0 m1
  | n + 1, k, ms, mx, s4, s5, s6, s7, hk, hl, m0, m1, h => by
    obtain ⟨nx, rt, bk, ct⟩ := P
    rw [List.range'_succ, List.map_cons]
    refine w_forC ?_
    tb_rel
    unfold drawBody
    tb_rel
    kfm_turns
    refine w_ixD (atI_rng (k := k) (by omega)) ?_
    placed_of0
    · exact cmul (k := 17) (l := 17) (sm_of (by simp; omega) (by simp; omega)) (sm_of (by decide) (by decide)) (by decide)
    placed_of0
    · exact ⟨by decide, by decide, by decide⟩
    tb_rel
    tb_rel
    have hm := fmod_bd (mx * 48271 + (if ns[k] < 0 then -ns[k] else ns[k]).fmod 1000003 + (0 + (k : Int))) (y := 65537) (by decide)
    generalize (mx * 48271 + (if ns[k] < 0 then -ns[k] else ns[k]).fmod 1000003 + (0 + (k : Int))).fmod 65537 = mx' at *
    generalize (if ns[k] < 0 then -ns[k] else ns[k]) = c at *
    by_cases e : (10 : Int) ^ (18 : Int).toNat ≤ c
    · rw [decide_eq_true e]
      placed_of0
      refine digits_loop _ ms _ _ (by unfold rngD; simp; omega) fun ms' r s7 h' => ?_
      placed_of0
      refine draw_loop n (k + 1) ms' _ _ _ _ _ (by omega) ?_ hm.1 hm.2 fun ms2 mx2 s4 s5 s6 s7 h2 => h ms2 mx2 s4 s5 s6 s7 ?_
      all_goals (unfold rngD at h'; simp at h'; omega)
    · rw [decide_eq_false e]
      placed_of0
      refine w_kApp (by rw [List.length_map]; omega) (show _ = [.va (scr ns), s1, .ow ((ms ++ [c.fmod 997]).map PyData.int), .va (.int mx'), .va (.int (0 + (k : Int))), .va (.int c), .va (.int 0), s7] by rw [List.map_append]; rfl) ?_
      placed_of0
      · exact cmul (k := 17) (l := 17) (sm_of (by simp; omega) (by simp; omega)) (sm_of (by decide) (by decide)) (by decide)
      placed_of0
      refine w_kApp (by rw [List.length_map, List.length_append, List.length_singleton]; omega) (show _ = [.va (scr ns), s1, .ow ((ms ++ [c.fmod 997] ++ [((mx' * 69621 + 5).fmod 65521).fmod 997]).map PyData.int), .va (.int mx'), .va (.int (0 + (k : Int))), .va (.int c), .va (.int 0), s7] by rw [List.map_append, List.map_append, List.map_append]; rfl) ?_
      placed_of0
      refine digits_loop _ (ms ++ [c.fmod 997] ++ [((mx' * 69621 + 5).fmod 65521).fmod 997]) _ _ (by unfold rngD; simp; omega) fun ms' r s7 h' => ?_
      placed_of0
      refine draw_loop n (k + 1) ms' _ _ _ _ _ (by omega) ?_ hm.1 hm.2 fun ms2 mx2 s4 s5 s6 s7 h2 => h ms2 mx2 s4 s5 s6 s7 ?_
      all_goals (unfold rngD at h'; simp at h'; omega)
def moreBody : MS := (sSeq (sAsg (eOp fMod (eCall fInt (aCons (eOp fAdd (eOp fAdd (eOp fMul (eVar 3) (eC (.int 16807))) (eVar 4)) (eC (.int 1))) aNil)) (eC (.int 65537))) (mgName 3)) (sApp 2 (aCons (eOp fMod (eCall fInt (aCons (eVar 3) aNil)) (eC (.int 997))) aNil)))
theorem more_loop {s0 s1 s5 s6 s7 : Sl} {P : Po} : ∀ (ks : List Int) (ms : List Int) (mx : Int) (s4 : Sl), ms.length + ks.length < 90000 → 0 ≤ mx → mx < 65537 →
    (∀ (ms' : List Int) (mx : Int) (s4 : Sl), ms'.length ≤ ms.length + ks.length → P.nx [s0, s1, .ow (ms'.map PyData.int), .va (.int mx), s4, s5, s6, s7]) →
    forW (mgName 4) moreBody (ks.map PyData.int) [s0, s1, .ow (ms.map PyData.int), .va (.int mx), s4, s5, s6, s7] P
  | [], ms, mx, s4, hl, m0, m1, h => by
    obtain ⟨nx, rt, bk, ct⟩ := P
    exact h ms mx s4 (by simp)
  | k :: ks, ms, mx, s4, hl, m0, m1, h => by
    obtain ⟨nx, rt, bk, ct⟩ := P
    rw [List.length_cons] at hl
    rw [List.map_cons]
    refine w_forC ?_
    tb_rel
    unfold moreBody
    placed_of0
    · exact cmul (k := 17) (l := 17) (sm_of (by simp; omega) (by simp; omega)) (sm_of (by decide) (by decide)) (by decide)
    placed_of0
    have hm := fmod_bd (mx * 16807 + k + 1) (y := 65537) (by decide)
    refine w_kApp (by rw [List.length_map]; omega) (show _ = [s0, s1, .ow ((ms ++ [((mx * 16807 + k + 1).fmod 65537).fmod 997]).map PyData.int), .va (.int ((mx * 16807 + k + 1).fmod 65537)), .va (.int k), s5, s6, s7] by rw [List.map_append]; rfl) ?_
    placed_of0
    exact more_loop ks (ms ++ [((mx * 16807 + k + 1).fmod 65537).fmod 997]) _ _ (by rw [List.length_append, List.length_singleton]; omega) hm.1 hm.2 fun ms' mx s4 h' => h ms' mx s4 (by rw [List.length_append, List.length_singleton] at h'; rw [List.length_cons]; omega)
theorem cutD_ints {ms : List Int} {n : Int} : ∃ ms' : List Int, cutD (ms.map PyData.int) none (some n) = ms'.map PyData.int ∧ ms'.length ≤ ms.length := by
  unfold cutD
  generalize HT.sIx (ms.map PyData.int).length (ms.map PyData.int).length (some n) - HT.sIx (ms.map PyData.int).length 0 none = a
  generalize HT.sIx (ms.map PyData.int).length 0 none = b
  exact ⟨(ms.drop b).take a, by rw [List.map_take, List.map_drop], by rw [List.length_take, List.length_drop]; omega⟩
theorem draws_ok {ns : List Int} {many : Int} (hn : ns.length ≤ 63) (h0 : 0 ≤ many) (h1 : many ≤ 2000) (h : ∀ ms : List Int, ms.length ≤ 80000 → Q (.list (ms.map PyData.int))) : F__law_draws [scr ns, .int many] Q := by
  unfold F__law_draws
  placed_of0
  refine w_lenD ?_
  placed_of0
  refine w_kR1 (by omega) (by omega) ?_
  rw [rngD_range']
  refine draw_loop (ns := ns) ns.length 0 [] 7 _ _ _ _ (by omega) (by simp; omega) (by decide) (by decide) fun ms mx s4 s5 s6 s7 hl m0 m1 => ?_
  rw [List.length_nil] at hl
  placed_of0
  refine w_kR1 (by omega) (by omega) ?_
  rw [show rngD 0 many.toNat = ((List.range many.toNat).map fun i : Nat => (0 : Int) + (i : Int)).map PyData.int by unfold rngD; rw [List.map_map]; rfl]
  refine more_loop _ ms mx _ (by rw [List.length_map, List.length_range]; omega) m0 m1 fun ms' mx' s4 h' => ?_
  rw [List.length_map, List.length_range] at h'
  placed_of0
  obtain ⟨ms2, e2, l2⟩ := cutD_ints (ms := ms') (n := many)
  rw [e2]
  exact h ms2 (by omega)
theorem hd_law : ∀ ns : List Int, ns.length ≤ 63 → D_law (env0 4 [scr ns]) IsDraws := by
  intro ns hn
  rw [show env0 4 [scr ns] = [.va (scr ns), .no, .no, .no] from rfl]
  unfold D_law
  placed_of0
  exact draws_ok hn (by decide) (by decide) fun ms hm => ⟨ms, rfl, by omega⟩
end
local macro_rules | `(tactic| pv_isi_meta) => `(tactic| (show (_ : Int) ≠ 0; decide))

def topS (i : Nat) : Stmt := PySem.Challenge.pw_cornersexact_k00_wide_numbers_in_order.main.body.getD i (.Pass ⟨0, 0, 0, 0⟩)
theorem boot_t_bool : bootBuiltins "bool" = some (.type "bool") := by decide +kernel
theorem boot_t_int : bootBuiltins "int" = some (.type "int") := by decide +kernel
theorem boot_t_list : bootBuiltins "list" = some (.type "list") := by decide +kernel
theorem boot_t_str : bootBuiltins "str" = some (.type "str") := by decide +kernel
theorem boot_t_tuple : bootBuiltins "tuple" = some (.type "tuple") := by decide +kernel
abbrev s__law_draws : Stmt := topS 50
abbrev s_is_number : Stmt := topS 1
abbrev s_common : Stmt := topS 6
abbrev s_is_fraction : Stmt := topS 9
abbrev s_is_root : Stmt := topS 24
abbrev s__law_frac : Stmt := topS 56
abbrev s__law_next : Stmt := topS 51
abbrev s__law_part : Stmt := topS 68
abbrev s_fraction : Stmt := topS 7
abbrev s_whole : Stmt := topS 8
abbrev s_minus : Stmt := topS 11
abbrev s__law_less : Stmt := topS 58
abbrev s_times : Stmt := topS 12
abbrev s__law_mul : Stmt := topS 59
abbrev s_turned : Stmt := topS 14
abbrev s_square : Stmt := topS 15
abbrev s_half : Stmt := topS 16
abbrev s_sign_of : Stmt := topS 2
abbrev s_sign : Stmt := topS 17
abbrev s__law_sgn : Stmt := topS 61
abbrev s_is_less : Stmt := topS 18
abbrev s_floor : Stmt := topS 20
abbrev s_added : Stmt := topS 10
abbrev s_middle : Stmt := topS 21
abbrev s__law_over : Stmt := topS 60
abbrev s_sum_of : Stmt := topS 19
abbrev s__law_add : Stmt := topS 57
abbrev s_over : Stmt := topS 13
abbrev s__law_fractions : Stmt := topS 74
abbrev s__law_pick : Stmt := topS 52
abbrev s_plain : Stmt := topS 23
abbrev s_whole_root : Stmt := topS 25
abbrev s_tidy : Stmt := topS 26
abbrev s__law_number : Stmt := topS 69
abbrev s__law_sign : Stmt := topS 62
abbrev s_times_root : Stmt := topS 33
abbrev s__law_compare : Stmt := topS 63
abbrev s__law_is : Stmt := topS 70
abbrev s_over_root : Stmt := topS 35
abbrev s_sign_of_root : Stmt := topS 27
abbrev s_root_of : Stmt := topS 36
abbrev s_added_root : Stmt := topS 30
abbrev s_turned_root : Stmt := topS 32
abbrev s_minus_root : Stmt := topS 31
abbrev s_by_fraction : Stmt := topS 34
abbrev s__law_sums : Stmt := topS 71
abbrev s_bound_of : Stmt := topS 38
abbrev s_sign_of_two : Stmt := topS 28
abbrev s_compare : Stmt := topS 29
abbrev s_floor_of : Stmt := topS 39
abbrev s_rounded : Stmt := topS 41
abbrev s_near_by : Stmt := topS 43
abbrev s_digits_of : Stmt := topS 42
abbrev s_between : Stmt := topS 40
abbrev s__law_parts : Stmt := topS 72
abbrev s_sorted_roots : Stmt := topS 45
abbrev s_rank_of : Stmt := topS 48
abbrev s_least_of : Stmt := topS 46
abbrev s_greatest_of : Stmt := topS 47
abbrev s__law_rows : Stmt := topS 73
abbrev s_law : Stmt := topS 75
section
variable {P : Program} {w : PySem.World} {K : PySem.W.Frag} {mg : Str → Option Value} {base : Heap}
theorem ok__law_draws {f : Addr} {fd : FuncData} (F : Fun K "_law_draws" "_law_draws" s__law_draws f fd) (gm : mg "_law_draws" = some (.ref f)) (b_range : mg "range" = none) (b_len : mg "len" = none) (b_abs : mg "abs" = none) (b_int : mg "int" = none) : Df P w K mg base "_law_draws" 2 1 F__law_draws := by
  have nd : (["script", "many", "draws", "mixed", "k", "cell", "rest", "turn"] : List Str).Nodup := by decide +kernel
  refine df_of (N := ["script", "many", "draws", "mixed", "k", "cell", "rest", "turn"]) (ps := ["script", "many"]) F ⟨rfl, rfl, rfl, nd, rfl, by decide +kernel, by decide +kernel⟩ rfl rfl gm (F.binds (ps := ["script", "many"]) fun _ _ _ _ _ _ us hl => match us, hl with | [_, _], _ => rfl) fun cdv A outer s0 H E aw hr => ?_
  exact (ss_cons (ss_own (i := 2) (fun _ he => ps_set (i := 2) nd rfl (Or.inl rfl) he) sa_nil) (ss_cons (ss_set (i := 3) nd rfl (Or.inl rfl) se_int) (ss_cons (ss_for PassesOwn.never rfl (si_rng1 rfl b_range (sa_cons (se_len rfl b_len (sa_cons (se_var (pv 0)) sa_nil)) sa_nil)) (sg_name (pg_name (i := 4) nd rfl (Or.inl rfl))) (ss_cons (ss_set (i := 5) nd rfl (Or.inl rfl) (se_abs rfl b_abs (sa_cons (se_intc rfl b_int (sa_cons (se_ix (se_var (pv 0)) (se_var (pv 4))) sa_nil)) sa_nil))) (ss_cons (ss_set (i := 3) nd rfl (Or.inl rfl) (se_mod (se_intc rfl b_int (sa_cons (se_add (se_add (se_mul (se_var (pv 3)) se_int) (se_mod (se_var (pv 5)) se_int)) (se_var (pv 4))) sa_nil)) se_int)) (ss_cons (ss_set (i := 6) nd rfl (Or.inl rfl) se_int) (ss_cons (ss_if (st_ge (se_var (pv 5)) (se_pow se_int se_int)) (ss_one (ss_set (i := 6) nd rfl (Or.inl rfl) (se_var (pv 5)))) (ss_cons (ss_app (ps_expr (pe_bm PySem.F.plainAttrs_list PySem.F.slot_list_append PySem.F.type_list_append mt_append (pv 2) (sa_cons (se_mod (se_intc rfl b_int (sa_cons (se_var (pv 5)) sa_nil)) se_int) sa_nil)))) (ss_one (ss_app (ps_expr (pe_bm PySem.F.plainAttrs_list PySem.F.slot_list_append PySem.F.type_list_append mt_append (pv 2) (sa_cons (se_mod (se_mod (se_intc rfl b_int (sa_cons (se_add (se_mul (se_var (pv 3)) se_int) se_int) sa_nil)) se_int) se_int) sa_nil))))))) (ss_one (ss_for PassesOwn.never rfl (si_rng1 rfl b_range (sa_cons se_int sa_nil)) (sg_name (pg_name (i := 7) nd rfl (Or.inl rfl))) (ss_one (ss_if (st_gt (se_var (pv 6)) se_int) (ss_cons (ss_app (ps_expr (pe_bm PySem.F.plainAttrs_list PySem.F.slot_list_append PySem.F.type_list_append mt_append (pv 2) (sa_cons (se_mod (se_intc rfl b_int (sa_cons (se_var (pv 6)) sa_nil)) se_int) sa_nil)))) (ss_one (ss_set (i := 6) nd rfl (Or.inl rfl) (se_div (se_var (pv 6)) se_int)))) ss_nil))))))))) (ss_cons (ss_for PassesOwn.never rfl (si_rng1 rfl b_range (sa_cons (se_var (pv 1)) sa_nil)) (sg_name (pg_name (i := 4) nd rfl (Or.inl rfl))) (ss_cons (ss_set (i := 3) nd rfl (Or.inl rfl) (se_mod (se_intc rfl b_int (sa_cons (se_add (se_add (se_mul (se_var (pv 3)) se_int) (se_var (pv 4))) se_int) sa_nil)) se_int)) (ss_one (ss_app (ps_expr (pe_bm PySem.F.plainAttrs_list PySem.F.slot_list_append PySem.F.type_list_append mt_append (pv 2) (sa_cons (se_mod (se_intc rfl b_int (sa_cons (se_var (pv 3)) sa_nil)) se_int) sa_nil))))))) (ss_freeze (i := 2) (ss_one (ss_ret (se_sl (se_var (pv 2)) so_none (so_some (se_var (pv 1)))))))))))
theorem ok_is_number {f : Addr} {fd : FuncData} (F : Fun K "is_number" "is_number" s_is_number f fd) (gm : mg "is_number" = some (.ref f)) (b_isinstance : mg "isinstance" = none) (b_int : mg "int" = none) (b_bool : mg "bool" = none) : Df P w K mg base "is_number" 1 1 F_is_number := by
  have nd : (["thing"] : List Str).Nodup := by decide +kernel
  refine df_of (N := ["thing"]) (ps := ["thing"]) F ⟨rfl, rfl, rfl, nd, rfl, by decide +kernel, by decide +kernel⟩ rfl rfl gm (F.binds (ps := ["thing"]) fun _ _ _ _ _ _ us hl => match us, hl with | [_], _ => rfl) fun cdv A outer s0 H E aw hr => ?_
  exact (ss_one (ss_ret (se_and (se_isi boot_t_int (by decide) rfl b_int rfl b_isinstance (se_var (pv 0))) (se_one (se_not (se_isi boot_t_bool (by decide) rfl b_bool rfl b_isinstance (se_var (pv 0))))))))
theorem ok_common {f : Addr} {fd : FuncData} (F : Fun K "common" "common" s_common f fd) (gm : mg "common" = some (.ref f)) (b_abs : mg "abs" = none) : Df P w K mg base "common" 2 1 F_common := by
  have nd : (["a", "b"] : List Str).Nodup := by decide +kernel
  refine df_of (N := ["a", "b"]) (ps := ["a", "b"]) F ⟨rfl, rfl, rfl, nd, rfl, by decide +kernel, by decide +kernel⟩ rfl rfl gm (F.binds (ps := ["a", "b"]) fun _ _ _ _ _ _ us hl => match us, hl with | [_, _], _ => rfl) fun cdv A outer s0 H E aw hr => ?_
  exact (ss_cons (ss_while PassesOwn.never (st_ne hr (se_var (pv 1)) se_int) (ss_one (ss_par (ps_par (i := 0) (j := 1) rfl nd rfl rfl (by decide) rfl rfl (sa_cons (se_var (pv 1)) (sa_cons (se_mod (se_var (pv 0)) (se_var (pv 1))) sa_nil)) (by rfl))))) (ss_one (ss_ret (se_abs rfl b_abs (sa_cons (se_var (pv 0)) sa_nil)))))
theorem ok_is_fraction {f : Addr} {fd : FuncData} (F : Fun K "is_fraction" "is_fraction" s_is_fraction f fd) (gm : mg "is_fraction" = some (.ref f)) (b_isinstance : mg "isinstance" = none) (b_tuple : mg "tuple" = none) (b_len : mg "len" = none) (h_is_number : Df P w K mg base "is_number" 1 1 F_is_number) (h_common : Df P w K mg base "common" 2 1 F_common) : Df P w K mg base "is_fraction" 1 2 F_is_fraction := by
  have nd : (["thing"] : List Str).Nodup := by decide +kernel
  refine df_of (N := ["thing"]) (ps := ["thing"]) F ⟨rfl, rfl, rfl, nd, rfl, by decide +kernel, by decide +kernel⟩ rfl rfl gm (F.binds (ps := ["thing"]) fun _ _ _ _ _ _ us hl => match us, hl with | [_], _ => rfl) fun cdv A outer s0 H E aw hr => ?_
  exact (ss_cons (ss_if (st_w (sw_or (st_not (st_val (se_isi boot_t_tuple (by decide) rfl b_tuple rfl b_isinstance (se_var (pv 0))))) (sw_or (st_ne hr (se_len rfl b_len (sa_cons (se_var (pv 0)) sa_nil)) se_int) (sw_or (st_not (st_val (se_call h_is_number hr (by decide) rfl (sa_cons (se_ix (se_var (pv 0)) se_int) sa_nil)))) (sw_or1 (st_not (st_val (se_call h_is_number hr (by decide) rfl (sa_cons (se_ix (se_var (pv 0)) se_int) sa_nil))))))))) (ss_one (ss_ret se_bl)) ss_nil) (ss_one (ss_ret (se_and (se_ge (se_ix (se_var (pv 0)) se_int) se_int) (se_one (se_eq hr (se_call h_common hr (by decide) rfl (sa_cons (se_ix (se_var (pv 0)) se_int) (sa_cons (se_ix (se_var (pv 0)) se_int) sa_nil))) se_int))))))
theorem ok_is_root {f : Addr} {fd : FuncData} (F : Fun K "is_root" "is_root" s_is_root f fd) (gm : mg "is_root" = some (.ref f)) (k_NOTHING : Kst K mg "NOTHING" c_NOTHING) (b_isinstance : mg "isinstance" = none) (b_tuple : mg "tuple" = none) (b_len : mg "len" = none) (b_all : mg "all" = none) (h_is_fraction : Df P w K mg base "is_fraction" 1 2 F_is_fraction) : Df P w K mg base "is_root" 1 3 F_is_root := by
  have nd : (["thing", "one"] : List Str).Nodup := by decide +kernel
  refine df_of (N := ["thing", "one"]) (ps := ["thing"]) F ⟨rfl, rfl, rfl, nd, rfl, by decide +kernel, by decide +kernel⟩ rfl rfl gm (F.binds (ps := ["thing"]) fun _ _ _ _ _ _ us hl => match us, hl with | [_], _ => rfl) fun cdv A outer s0 H E aw hr => ?_
  exact (ss_cons (ss_if (st_w (sw_or (st_not (st_val (se_isi boot_t_tuple (by decide) rfl b_tuple rfl b_isinstance (se_var (pv 0))))) (sw_or (st_ne hr (se_len rfl b_len (sa_cons (se_var (pv 0)) sa_nil)) se_int) (sw_or1 (st_not (st_val (se_allc rfl rfl b_all (sa_cons (se_lc (own := [("one", 1)]) rfl nd (blkOk_by (own := [("one", 1)]) rfl) (si_c (si_tup (se_var (pv 0)))) (fun _ _ _ _ _ => (sg_name (pg_name (i := 1) nd rfl (Or.inl rfl)))) (fun _ _ _ _ _ => sts_nil) (fun _ _ _ _ _ => (se_call h_is_fraction hr (by decide) rfl (sa_cons (se_var (pv 1)) sa_nil)))) sa_nil)))))))) (ss_one (ss_ret se_bl)) ss_nil) (ss_one (ss_ret (se_and (se_ge (se_ix (se_ix (se_var (pv 0)) se_int) se_int) se_int) (se_one (se_eq hr (se_ne hr (se_ix (se_var (pv 0)) se_int) (se_glob k_NOTHING rfl)) (se_ne hr (se_ix (se_var (pv 0)) se_int) (se_glob k_NOTHING rfl))))))))
theorem ok__law_frac {f : Addr} {fd : FuncData} (F : Fun K "_law_frac" "_law_frac" s__law_frac f fd) (gm : mg "_law_frac" = some (.ref f)) (b_abs : mg "abs" = none) (b_range : mg "range" = none) : Df P w K mg base "_law_frac" 2 1 F__law_frac := by
  have nd : (["upper", "lower", "a", "b", "time"] : List Str).Nodup := by decide +kernel
  refine df_of (N := ["upper", "lower", "a", "b", "time"]) (ps := ["upper", "lower"]) F ⟨rfl, rfl, rfl, nd, rfl, by decide +kernel, by decide +kernel⟩ rfl rfl gm (F.binds (ps := ["upper", "lower"]) fun _ _ _ _ _ _ us hl => match us, hl with | [_, _], _ => rfl) fun cdv A outer s0 H E aw hr => ?_
  exact (ss_cons (ss_par (ps_par (i := 2) (j := 3) rfl nd rfl rfl (by decide) rfl rfl (sa_cons (se_abs rfl b_abs (sa_cons (se_var (pv 0)) sa_nil)) (sa_cons (se_abs rfl b_abs (sa_cons (se_var (pv 1)) sa_nil)) sa_nil)) (by rfl))) (ss_cons (ss_for PassesOwn.never rfl (si_rng1 rfl b_range (sa_cons se_int sa_nil)) (sg_name (pg_name (i := 4) nd rfl (Or.inl rfl))) (ss_cons (ss_if (st_eq hr (se_var (pv 3)) se_int) (ss_one ss_brk) ss_nil) (ss_one (ss_par (ps_par (i := 2) (j := 3) rfl nd rfl rfl (by decide) rfl rfl (sa_cons (se_var (pv 3)) (sa_cons (se_sub (se_var (pv 2)) (se_mul (se_div (se_var (pv 2)) (se_var (pv 3))) (se_var (pv 3)))) sa_nil)) (by rfl)))))) (ss_cons (ss_set (i := 2) nd rfl (Or.inl rfl) (se_if (st_gt (se_var (pv 1)) se_int) (se_var (pv 2)) (se_sub se_int (se_var (pv 2))))) (ss_one (ss_ret (se_tup (sa_cons (se_div (se_var (pv 0)) (se_var (pv 2))) (sa_cons (se_div (se_var (pv 1)) (se_var (pv 2))) sa_nil))))))))
theorem ok__law_next {f : Addr} {fd : FuncData} (F : Fun K "_law_next" "_law_next" s__law_next f fd) (gm : mg "_law_next" = some (.ref f)) (b_len : mg "len" = none) (b_int : mg "int" = none) : Df P w K mg base "_law_next" 2 1 F__law_next := by
  have nd : (["w", "many"] : List Str).Nodup := by decide +kernel
  refine ⟨f, fd, ["w", "many"], rfl, gm, F.kp, F.binds (ps := ["w", "many"]) fun _ _ _ _ _ _ us hl => match us, hl with | [_, _], _ => rfl, F.ok (N := ["w", "many"]) ⟨rfl, rfl, rfl, nd, rfl, by decide +kernel, by decide +kernel⟩ (fun vs H Q E h => ?_) (fun cdv A outer s0 H vs Q E hr h => ?_)⟩
  · obtain ⟨_, _, _, _, h, _⟩ := h
    exact h
  · obtain ⟨aw, B, ds, P', hl, wl, hB, r, hF, q⟩ := h
    have hu : (A.deeper (envOfC (Str.ofString "_law_next") (defScope s__law_next) s0.heap.objs.size f cdv)).units + 1 < cLine := by have := hr.un; omega
    refine ⟨_, pss_cons (ps_daug hu (pv 0) pe_str pe_int in_add (by intro _ _ _; rfl))
      (pss_cons (ps_if (pt_cmpR op_gt (pe_dget hu (pv 0) pe_str (fun _ _ => rfl)) (pe_callB call_len_seq (by rfl) b_len PySem.boot_len (pa_cons (pe_dget hu (pv 0) pe_str (fun _ _ => rfl)) pa_nil)) (nomark _)) (pss_one (ps_ret pe_int)) pss_nil)
      (pss_one (ps_ret (pe_op op_modN (pe_callTy call_int1 (by rfl) b_int (by decide +kernel) (pa_cons (pe_ix ix_list (pe_dget hu (pv 0) pe_str (fun _ _ => rfl)) (pe_op op_sub (pe_dget hu (pv 0) pe_str (fun _ _ => rfl)) pe_int) (fun _ _ => rfl)) pa_nil)) (pv 1))))), ?_⟩
    unfold F__law_next F_next at hF
    split at hF
    · rename_i m
      obtain ⟨hm, hF⟩ := hF
      cases r with
      | cons r0 rr =>
      cases rr with
      | cons r1 rr =>
      cases rr
      cases r1
      cases r0 with
      | wld ea hd =>
      rename_i a kvs
      subst ea
      obtain ⟨ld, n, ns, h1, h2, h0, hlen⟩ := wl a rfl
      obtain ⟨a1, a2⟩ := cut_some h1
      obtain ⟨b1, b2⟩ := cut_some h2
      have ne : ld ≠ a := fun z => by rw [z, a1] at b1; cases b1
      obtain ⟨ex, wx⟩ := world_step h1 h2 h0 hlen
      refine ⟨_, rfl, a, .int n, rfl, .inl ⟨_, .inr "at", .inl a1, rfl, (w_at ld n).symm⟩, n, 1, rfl, rfl, _, .inl ⟨_, .inr "at", a1, rfl, (by show 2 < sizeLine; decide), rfl⟩, ?_⟩
      rw [w_put]
      have g1 : (upd H a (.dK [(.inr "draws", .ref ld), (.inr "at", .int (n + 1))])) a = some (.dK [(.inr "draws", .ref ld), (.inr "at", .int (n + 1))]) := upd_same
      have g2 : (upd H a (.dK [(.inr "draws", .ref ld), (.inr "at", .int (n + 1))])) ld = some (.lst (ns.map V.int)) := by rw [upd_ne ne]; exact b1
      refine ⟨_, rfl, a, _, rfl, .inl ⟨_, .inr "at", .inl g1, rfl, (w_at ld (n + 1)).symm⟩, _, rfl, a, _, rfl, .inl ⟨_, .inr "draws", .inl g1, rfl, (w_draws ld (n + 1)).symm⟩, ld, _, rfl, .inl (.inl (.inl g2)), n + 1, ((ns.map V.int).length : Nat), rfl, rfl, _, rfl, ?_⟩
      by_cases hc : ((ns.map V.int).length : Int) < n + 1
      · rw [decide_eq_true hc]
        exact q _ _ _ ex wx (.int 0) (hF 0 (by omega) hm)
      · rw [decide_eq_false hc]
        have hi : n.toNat < ns.length := by
          rw [List.length_map] at hc
          omega
        refine ⟨_, rfl, a, _, rfl, .inl ⟨_, .inr "draws", .inl g1, rfl, (w_draws ld (n + 1)).symm⟩, _, rfl, a, _, rfl, .inl ⟨_, .inr "at", .inl g1, rfl, (w_at ld (n + 1)).symm⟩, n + 1, 1, rfl, rfl, ld, _, n + 1 - 1, .int ns[n.toNat], rfl, rfl, .inl (.inl g2), ?_, .inl ⟨_, rfl, _, rfl, _, m, rfl, rfl, ?_, ?_⟩⟩
        · have e : n + 1 - 1 = ((n.toNat : Nat) : Int) := by omega
          rw [e]
          refine atI_nat ?_
          rw [List.getElem?_map, List.getElem?_eq_getElem hi]
          rfl
        · omega
        · refine q _ _ _ ex wx (.int _) (hF _ ?_ ?_)
          · rw [Int.fmod_eq_emod_of_nonneg _ (by omega)]; exact Int.emod_nonneg _ (by omega)
          · exact Int.fmod_lt_of_pos _ hm
    · cases hF
theorem ok__law_part {f : Addr} {fd : FuncData} (F : Fun K "_law_part" "_law_part" s__law_part f fd) (gm : mg "_law_part" = some (.ref f)) (h__law_next : Df P w K mg base "_law_next" 2 1 F__law_next) (h__law_frac : Df P w K mg base "_law_frac" 2 1 F__law_frac) : Df P w K mg base "_law_part" 1 2 F__law_part := by
  have nd : (["w", "upper"] : List Str).Nodup := by decide +kernel
  refine df_of (N := ["w", "upper"]) (ps := ["w"]) F ⟨rfl, rfl, rfl, nd, rfl, by decide +kernel, by decide +kernel⟩ rfl rfl gm (F.binds (ps := ["w"]) fun _ _ _ _ _ _ us hl => match us, hl with | [_], _ => rfl) fun cdv A outer s0 H E aw hr => ?_
  exact (ss_cons (ss_set (i := 1) nd rfl (Or.inl rfl) (se_if (st_gt (se_call h__law_next hr (by decide) rfl (sa_cons (se_var (pv 0)) (sa_cons se_int sa_nil))) se_int) (se_sub (se_call h__law_next hr (by decide) rfl (sa_cons (se_var (pv 0)) (sa_cons se_int sa_nil))) se_int) (se_add (se_mul (se_mul (se_sub (se_call h__law_next hr (by decide) rfl (sa_cons (se_var (pv 0)) (sa_cons se_int sa_nil))) se_int) se_int) se_int) (se_call h__law_next hr (by decide) rfl (sa_cons (se_var (pv 0)) (sa_cons se_int sa_nil)))))) (ss_one (ss_ret (se_call h__law_frac hr (by decide) rfl (sa_cons (se_var (pv 1)) (sa_cons (se_add se_int (se_call h__law_next hr (by decide) rfl (sa_cons (se_var (pv 0)) (sa_cons se_int sa_nil)))) sa_nil))))))
theorem ok_fraction {f : Addr} {fd : FuncData} (F : Fun K "fraction" "fraction" s_fraction f fd) (gm : mg "fraction" = some (.ref f)) (h_common : Df P w K mg base "common" 2 1 F_common) : Df P w K mg base "fraction" 2 2 F_fraction := by
  have nd : (["upper", "lower", "part"] : List Str).Nodup := by decide +kernel
  refine df_of (N := ["upper", "lower", "part"]) (ps := ["upper", "lower"]) F ⟨rfl, rfl, rfl, nd, rfl, by decide +kernel, by decide +kernel⟩ rfl rfl gm (F.binds (ps := ["upper", "lower"]) fun _ _ _ _ _ _ us hl => match us, hl with | [_, _], _ => rfl) fun cdv A outer s0 H E aw hr => ?_
  exact (ss_cons (ss_set (i := 2) nd rfl (Or.inl rfl) (se_call h_common hr (by decide) rfl (sa_cons (se_var (pv 0)) (sa_cons (se_var (pv 1)) sa_nil)))) (ss_cons (ss_if (st_lt (se_var (pv 1)) se_int) (ss_one (ss_set (i := 2) nd rfl (Or.inl rfl) (se_neg (se_var (pv 2))))) ss_nil) (ss_one (ss_ret (se_tup (sa_cons (se_div (se_var (pv 0)) (se_var (pv 2))) (sa_cons (se_div (se_var (pv 1)) (se_var (pv 2))) sa_nil)))))))
theorem ok_whole {f : Addr} {fd : FuncData} (F : Fun K "whole" "whole" s_whole f fd) (gm : mg "whole" = some (.ref f)) : Df P w K mg base "whole" 1 1 F_whole := by
  have nd : (["number"] : List Str).Nodup := by decide +kernel
  refine df_of (N := ["number"]) (ps := ["number"]) F ⟨rfl, rfl, rfl, nd, rfl, by decide +kernel, by decide +kernel⟩ rfl rfl gm (F.binds (ps := ["number"]) fun _ _ _ _ _ _ us hl => match us, hl with | [_], _ => rfl) fun cdv A outer s0 H E aw hr => ?_
  exact (ss_one (ss_ret (se_tup (sa_cons (se_var (pv 0)) (sa_cons se_int sa_nil)))))
theorem ok_minus {f : Addr} {fd : FuncData} (F : Fun K "minus" "minus" s_minus f fd) (gm : mg "minus" = some (.ref f)) (h_fraction : Df P w K mg base "fraction" 2 2 F_fraction) : Df P w K mg base "minus" 2 3 F_minus := by
  have nd : (["one", "other"] : List Str).Nodup := by decide +kernel
  refine df_of (N := ["one", "other"]) (ps := ["one", "other"]) F ⟨rfl, rfl, rfl, nd, rfl, by decide +kernel, by decide +kernel⟩ rfl rfl gm (F.binds (ps := ["one", "other"]) fun _ _ _ _ _ _ us hl => match us, hl with | [_, _], _ => rfl) fun cdv A outer s0 H E aw hr => ?_
  exact (ss_one (ss_ret (se_call h_fraction hr (by decide) rfl (sa_cons (se_sub (se_mul (se_ix (se_var (pv 0)) se_int) (se_ix (se_var (pv 1)) se_int)) (se_mul (se_ix (se_var (pv 1)) se_int) (se_ix (se_var (pv 0)) se_int))) (sa_cons (se_mul (se_ix (se_var (pv 0)) se_int) (se_ix (se_var (pv 1)) se_int)) sa_nil)))))
theorem ok__law_less {f : Addr} {fd : FuncData} (F : Fun K "_law_less" "_law_less" s__law_less f fd) (gm : mg "_law_less" = some (.ref f)) (h__law_frac : Df P w K mg base "_law_frac" 2 1 F__law_frac) : Df P w K mg base "_law_less" 2 2 F__law_less := by
  have nd : (["one", "other"] : List Str).Nodup := by decide +kernel
  refine df_of (N := ["one", "other"]) (ps := ["one", "other"]) F ⟨rfl, rfl, rfl, nd, rfl, by decide +kernel, by decide +kernel⟩ rfl rfl gm (F.binds (ps := ["one", "other"]) fun _ _ _ _ _ _ us hl => match us, hl with | [_, _], _ => rfl) fun cdv A outer s0 H E aw hr => ?_
  exact (ss_one (ss_ret (se_call h__law_frac hr (by decide) rfl (sa_cons (se_sub (se_mul (se_ix (se_var (pv 0)) se_int) (se_ix (se_var (pv 1)) se_int)) (se_mul (se_ix (se_var (pv 1)) se_int) (se_ix (se_var (pv 0)) se_int))) (sa_cons (se_mul (se_ix (se_var (pv 0)) se_int) (se_ix (se_var (pv 1)) se_int)) sa_nil)))))
theorem ok_times {f : Addr} {fd : FuncData} (F : Fun K "times" "times" s_times f fd) (gm : mg "times" = some (.ref f)) (h_fraction : Df P w K mg base "fraction" 2 2 F_fraction) : Df P w K mg base "times" 2 3 F_times := by
  have nd : (["one", "other"] : List Str).Nodup := by decide +kernel
  refine df_of (N := ["one", "other"]) (ps := ["one", "other"]) F ⟨rfl, rfl, rfl, nd, rfl, by decide +kernel, by decide +kernel⟩ rfl rfl gm (F.binds (ps := ["one", "other"]) fun _ _ _ _ _ _ us hl => match us, hl with | [_, _], _ => rfl) fun cdv A outer s0 H E aw hr => ?_
  exact (ss_one (ss_ret (se_call h_fraction hr (by decide) rfl (sa_cons (se_mul (se_ix (se_var (pv 0)) se_int) (se_ix (se_var (pv 1)) se_int)) (sa_cons (se_mul (se_ix (se_var (pv 0)) se_int) (se_ix (se_var (pv 1)) se_int)) sa_nil)))))
theorem ok__law_mul {f : Addr} {fd : FuncData} (F : Fun K "_law_mul" "_law_mul" s__law_mul f fd) (gm : mg "_law_mul" = some (.ref f)) (h__law_frac : Df P w K mg base "_law_frac" 2 1 F__law_frac) : Df P w K mg base "_law_mul" 2 2 F__law_mul := by
  have nd : (["one", "other"] : List Str).Nodup := by decide +kernel
  refine df_of (N := ["one", "other"]) (ps := ["one", "other"]) F ⟨rfl, rfl, rfl, nd, rfl, by decide +kernel, by decide +kernel⟩ rfl rfl gm (F.binds (ps := ["one", "other"]) fun _ _ _ _ _ _ us hl => match us, hl with | [_, _], _ => rfl) fun cdv A outer s0 H E aw hr => ?_
  exact (ss_one (ss_ret (se_call h__law_frac hr (by decide) rfl (sa_cons (se_mul (se_ix (se_var (pv 0)) se_int) (se_ix (se_var (pv 1)) se_int)) (sa_cons (se_mul (se_ix (se_var (pv 0)) se_int) (se_ix (se_var (pv 1)) se_int)) sa_nil)))))
theorem ok_turned {f : Addr} {fd : FuncData} (F : Fun K "turned" "turned" s_turned f fd) (gm : mg "turned" = some (.ref f)) : Df P w K mg base "turned" 1 1 F_turned := by
  have nd : (["one"] : List Str).Nodup := by decide +kernel
  refine df_of (N := ["one"]) (ps := ["one"]) F ⟨rfl, rfl, rfl, nd, rfl, by decide +kernel, by decide +kernel⟩ rfl rfl gm (F.binds (ps := ["one"]) fun _ _ _ _ _ _ us hl => match us, hl with | [_], _ => rfl) fun cdv A outer s0 H E aw hr => ?_
  exact (ss_one (ss_ret (se_tup (sa_cons (se_neg (se_ix (se_var (pv 0)) se_int)) (sa_cons (se_ix (se_var (pv 0)) se_int) sa_nil)))))
theorem ok_square {f : Addr} {fd : FuncData} (F : Fun K "square" "square" s_square f fd) (gm : mg "square" = some (.ref f)) : Df P w K mg base "square" 1 1 F_square := by
  have nd : (["one"] : List Str).Nodup := by decide +kernel
  refine df_of (N := ["one"]) (ps := ["one"]) F ⟨rfl, rfl, rfl, nd, rfl, by decide +kernel, by decide +kernel⟩ rfl rfl gm (F.binds (ps := ["one"]) fun _ _ _ _ _ _ us hl => match us, hl with | [_], _ => rfl) fun cdv A outer s0 H E aw hr => ?_
  exact (ss_one (ss_ret (se_tup (sa_cons (se_mul (se_ix (se_var (pv 0)) se_int) (se_ix (se_var (pv 0)) se_int)) (sa_cons (se_mul (se_ix (se_var (pv 0)) se_int) (se_ix (se_var (pv 0)) se_int)) sa_nil)))))
theorem ok_half {f : Addr} {fd : FuncData} (F : Fun K "half" "half" s_half f fd) (gm : mg "half" = some (.ref f)) (h_fraction : Df P w K mg base "fraction" 2 2 F_fraction) : Df P w K mg base "half" 1 3 F_half := by
  have nd : (["one"] : List Str).Nodup := by decide +kernel
  refine df_of (N := ["one"]) (ps := ["one"]) F ⟨rfl, rfl, rfl, nd, rfl, by decide +kernel, by decide +kernel⟩ rfl rfl gm (F.binds (ps := ["one"]) fun _ _ _ _ _ _ us hl => match us, hl with | [_], _ => rfl) fun cdv A outer s0 H E aw hr => ?_
  exact (ss_one (ss_ret (se_call h_fraction hr (by decide) rfl (sa_cons (se_ix (se_var (pv 0)) se_int) (sa_cons (se_mul se_int (se_ix (se_var (pv 0)) se_int)) sa_nil)))))
theorem ok_sign_of {f : Addr} {fd : FuncData} (F : Fun K "sign_of" "sign_of" s_sign_of f fd) (gm : mg "sign_of" = some (.ref f)) : Df P w K mg base "sign_of" 1 1 F_sign_of := by
  have nd : (["number"] : List Str).Nodup := by decide +kernel
  refine df_of (N := ["number"]) (ps := ["number"]) F ⟨rfl, rfl, rfl, nd, rfl, by decide +kernel, by decide +kernel⟩ rfl rfl gm (F.binds (ps := ["number"]) fun _ _ _ _ _ _ us hl => match us, hl with | [_], _ => rfl) fun cdv A outer s0 H E aw hr => ?_
  exact (ss_one (ss_ret (se_subB (se_gt (se_var (pv 0)) se_int) (se_lt (se_var (pv 0)) se_int))))
theorem ok_sign {f : Addr} {fd : FuncData} (F : Fun K "sign" "sign" s_sign f fd) (gm : mg "sign" = some (.ref f)) (h_sign_of : Df P w K mg base "sign_of" 1 1 F_sign_of) : Df P w K mg base "sign" 1 2 F_sign := by
  have nd : (["one"] : List Str).Nodup := by decide +kernel
  refine df_of (N := ["one"]) (ps := ["one"]) F ⟨rfl, rfl, rfl, nd, rfl, by decide +kernel, by decide +kernel⟩ rfl rfl gm (F.binds (ps := ["one"]) fun _ _ _ _ _ _ us hl => match us, hl with | [_], _ => rfl) fun cdv A outer s0 H E aw hr => ?_
  exact (ss_one (ss_ret (se_call h_sign_of hr (by decide) rfl (sa_cons (se_ix (se_var (pv 0)) se_int) sa_nil))))
theorem ok__law_sgn {f : Addr} {fd : FuncData} (F : Fun K "_law_sgn" "_law_sgn" s__law_sgn f fd) (gm : mg "_law_sgn" = some (.ref f)) : Df P w K mg base "_law_sgn" 1 1 F__law_sgn := by
  have nd : (["one"] : List Str).Nodup := by decide +kernel
  refine df_of (N := ["one"]) (ps := ["one"]) F ⟨rfl, rfl, rfl, nd, rfl, by decide +kernel, by decide +kernel⟩ rfl rfl gm (F.binds (ps := ["one"]) fun _ _ _ _ _ _ us hl => match us, hl with | [_], _ => rfl) fun cdv A outer s0 H E aw hr => ?_
  exact (ss_one (ss_ret (se_sub (se_if (st_gt (se_ix (se_var (pv 0)) se_int) se_int) se_int se_int) (se_if (st_lt (se_ix (se_var (pv 0)) se_int) se_int) se_int se_int))))
theorem ok_is_less {f : Addr} {fd : FuncData} (F : Fun K "is_less" "is_less" s_is_less f fd) (gm : mg "is_less" = some (.ref f)) : Df P w K mg base "is_less" 2 1 F_is_less := by
  have nd : (["one", "other"] : List Str).Nodup := by decide +kernel
  refine df_of (N := ["one", "other"]) (ps := ["one", "other"]) F ⟨rfl, rfl, rfl, nd, rfl, by decide +kernel, by decide +kernel⟩ rfl rfl gm (F.binds (ps := ["one", "other"]) fun _ _ _ _ _ _ us hl => match us, hl with | [_, _], _ => rfl) fun cdv A outer s0 H E aw hr => ?_
  exact (ss_one (ss_ret (se_lt (se_mul (se_ix (se_var (pv 0)) se_int) (se_ix (se_var (pv 1)) se_int)) (se_mul (se_ix (se_var (pv 1)) se_int) (se_ix (se_var (pv 0)) se_int)))))
theorem ok_floor {f : Addr} {fd : FuncData} (F : Fun K "floor" "floor" s_floor f fd) (gm : mg "floor" = some (.ref f)) : Df P w K mg base "floor" 1 1 F_floor := by
  have nd : (["one"] : List Str).Nodup := by decide +kernel
  refine df_of (N := ["one"]) (ps := ["one"]) F ⟨rfl, rfl, rfl, nd, rfl, by decide +kernel, by decide +kernel⟩ rfl rfl gm (F.binds (ps := ["one"]) fun _ _ _ _ _ _ us hl => match us, hl with | [_], _ => rfl) fun cdv A outer s0 H E aw hr => ?_
  exact (ss_one (ss_ret (se_div (se_ix (se_var (pv 0)) se_int) (se_ix (se_var (pv 0)) se_int))))
theorem ok_added {f : Addr} {fd : FuncData} (F : Fun K "added" "added" s_added f fd) (gm : mg "added" = some (.ref f)) (h_fraction : Df P w K mg base "fraction" 2 2 F_fraction) : Df P w K mg base "added" 2 3 F_added := by
  have nd : (["one", "other"] : List Str).Nodup := by decide +kernel
  refine df_of (N := ["one", "other"]) (ps := ["one", "other"]) F ⟨rfl, rfl, rfl, nd, rfl, by decide +kernel, by decide +kernel⟩ rfl rfl gm (F.binds (ps := ["one", "other"]) fun _ _ _ _ _ _ us hl => match us, hl with | [_, _], _ => rfl) fun cdv A outer s0 H E aw hr => ?_
  exact (ss_one (ss_ret (se_call h_fraction hr (by decide) rfl (sa_cons (se_add (se_mul (se_ix (se_var (pv 0)) se_int) (se_ix (se_var (pv 1)) se_int)) (se_mul (se_ix (se_var (pv 1)) se_int) (se_ix (se_var (pv 0)) se_int))) (sa_cons (se_mul (se_ix (se_var (pv 0)) se_int) (se_ix (se_var (pv 1)) se_int)) sa_nil)))))
theorem ok_middle {f : Addr} {fd : FuncData} (F : Fun K "middle" "middle" s_middle f fd) (gm : mg "middle" = some (.ref f)) (h_added : Df P w K mg base "added" 2 3 F_added) (h_half : Df P w K mg base "half" 1 3 F_half) : Df P w K mg base "middle" 2 4 F_middle := by
  have nd : (["one", "other"] : List Str).Nodup := by decide +kernel
  refine df_of (N := ["one", "other"]) (ps := ["one", "other"]) F ⟨rfl, rfl, rfl, nd, rfl, by decide +kernel, by decide +kernel⟩ rfl rfl gm (F.binds (ps := ["one", "other"]) fun _ _ _ _ _ _ us hl => match us, hl with | [_, _], _ => rfl) fun cdv A outer s0 H E aw hr => ?_
  exact (ss_one (ss_ret (se_call h_half hr (by decide) rfl (sa_cons (se_call h_added hr (by decide) rfl (sa_cons (se_var (pv 0)) (sa_cons (se_var (pv 1)) sa_nil))) sa_nil))))
theorem ok__law_over {f : Addr} {fd : FuncData} (F : Fun K "_law_over" "_law_over" s__law_over f fd) (gm : mg "_law_over" = some (.ref f)) (h__law_frac : Df P w K mg base "_law_frac" 2 1 F__law_frac) : Df P w K mg base "_law_over" 2 2 F__law_over := by
  have nd : (["one", "other"] : List Str).Nodup := by decide +kernel
  refine df_of (N := ["one", "other"]) (ps := ["one", "other"]) F ⟨rfl, rfl, rfl, nd, rfl, by decide +kernel, by decide +kernel⟩ rfl rfl gm (F.binds (ps := ["one", "other"]) fun _ _ _ _ _ _ us hl => match us, hl with | [_, _], _ => rfl) fun cdv A outer s0 H E aw hr => ?_
  exact (ss_one (ss_ret (se_call h__law_frac hr (by decide) rfl (sa_cons (se_mul (se_ix (se_var (pv 0)) se_int) (se_ix (se_var (pv 1)) se_int)) (sa_cons (se_mul (se_ix (se_var (pv 0)) se_int) (se_ix (se_var (pv 1)) se_int)) sa_nil)))))
theorem ok_sum_of {f : Addr} {fd : FuncData} (F : Fun K "sum_of" "sum_of" s_sum_of f fd) (gm : mg "sum_of" = some (.ref f)) (k_NOTHING : Kst K mg "NOTHING" c_NOTHING) (h_added : Df P w K mg base "added" 2 3 F_added) : Df P w K mg base "sum_of" 1 4 F_sum_of := by
  have nd : (["rows", "found", "one"] : List Str).Nodup := by decide +kernel
  refine df_of (N := ["rows", "found", "one"]) (ps := ["rows"]) F ⟨rfl, rfl, rfl, nd, rfl, by decide +kernel, by decide +kernel⟩ rfl rfl gm (F.binds (ps := ["rows"]) fun _ _ _ _ _ _ us hl => match us, hl with | [_], _ => rfl) fun cdv A outer s0 H E aw hr => ?_
  exact (ss_cons (ss_set (i := 1) nd rfl (Or.inl rfl) (se_glob k_NOTHING rfl)) (ss_cons (ss_for PassesOwn.never rfl (si_list (se_var (pv 0))) (sg_name (pg_name (i := 2) nd rfl (Or.inl rfl))) (ss_one (ss_set (i := 1) nd rfl (Or.inl rfl) (se_call h_added hr (by decide) rfl (sa_cons (se_var (pv 1)) (sa_cons (se_var (pv 2)) sa_nil)))))) (ss_one (ss_ret (se_var (pv 1))))))
theorem ok__law_add {f : Addr} {fd : FuncData} (F : Fun K "_law_add" "_law_add" s__law_add f fd) (gm : mg "_law_add" = some (.ref f)) (h__law_frac : Df P w K mg base "_law_frac" 2 1 F__law_frac) : Df P w K mg base "_law_add" 2 2 F__law_add := by
  have nd : (["one", "other"] : List Str).Nodup := by decide +kernel
  refine df_of (N := ["one", "other"]) (ps := ["one", "other"]) F ⟨rfl, rfl, rfl, nd, rfl, by decide +kernel, by decide +kernel⟩ rfl rfl gm (F.binds (ps := ["one", "other"]) fun _ _ _ _ _ _ us hl => match us, hl with | [_, _], _ => rfl) fun cdv A outer s0 H E aw hr => ?_
  exact (ss_one (ss_ret (se_call h__law_frac hr (by decide) rfl (sa_cons (se_add (se_mul (se_ix (se_var (pv 0)) se_int) (se_ix (se_var (pv 1)) se_int)) (se_mul (se_ix (se_var (pv 1)) se_int) (se_ix (se_var (pv 0)) se_int))) (sa_cons (se_mul (se_ix (se_var (pv 0)) se_int) (se_ix (se_var (pv 1)) se_int)) sa_nil)))))
theorem ok_over {f : Addr} {fd : FuncData} (F : Fun K "over" "over" s_over f fd) (gm : mg "over" = some (.ref f)) (h_fraction : Df P w K mg base "fraction" 2 2 F_fraction) : Df P w K mg base "over" 2 3 F_over := by
  have nd : (["one", "other"] : List Str).Nodup := by decide +kernel
  refine df_of (N := ["one", "other"]) (ps := ["one", "other"]) F ⟨rfl, rfl, rfl, nd, rfl, by decide +kernel, by decide +kernel⟩ rfl rfl gm (F.binds (ps := ["one", "other"]) fun _ _ _ _ _ _ us hl => match us, hl with | [_, _], _ => rfl) fun cdv A outer s0 H E aw hr => ?_
  exact (ss_one (ss_ret (se_call h_fraction hr (by decide) rfl (sa_cons (se_mul (se_ix (se_var (pv 0)) se_int) (se_ix (se_var (pv 1)) se_int)) (sa_cons (se_mul (se_ix (se_var (pv 0)) se_int) (se_ix (se_var (pv 1)) se_int)) sa_nil)))))
theorem ok__law_fractions {f : Addr} {fd : FuncData} (F : Fun K "_law_fractions" "_law_fractions" s__law_fractions f fd) (gm : mg "_law_fractions" = some (.ref f)) (h__law_part : Df P w K mg base "_law_part" 1 2 F__law_part) (h_is_fraction : Df P w K mg base "is_fraction" 1 2 F_is_fraction) (h_fraction : Df P w K mg base "fraction" 2 2 F_fraction) (h__law_frac : Df P w K mg base "_law_frac" 2 1 F__law_frac) (h_whole : Df P w K mg base "whole" 1 1 F_whole) (h_minus : Df P w K mg base "minus" 2 3 F_minus) (h__law_less : Df P w K mg base "_law_less" 2 2 F__law_less) (h_times : Df P w K mg base "times" 2 3 F_times) (h__law_mul : Df P w K mg base "_law_mul" 2 2 F__law_mul) (h_turned : Df P w K mg base "turned" 1 1 F_turned) (h_square : Df P w K mg base "square" 1 1 F_square) (h_half : Df P w K mg base "half" 1 3 F_half) (h_sign : Df P w K mg base "sign" 1 2 F_sign) (h__law_sgn : Df P w K mg base "_law_sgn" 1 1 F__law_sgn) (h_is_less : Df P w K mg base "is_less" 2 1 F_is_less) (h_floor : Df P w K mg base "floor" 1 1 F_floor) (h_middle : Df P w K mg base "middle" 2 4 F_middle) (h__law_add : Df P w K mg base "_law_add" 2 2 F__law_add) (h__law_over : Df P w K mg base "_law_over" 2 2 F__law_over) (h_sum_of : Df P w K mg base "sum_of" 1 4 F_sum_of) (h_over : Df P w K mg base "over" 2 3 F_over) : Df P w K mg base "_law_fractions" 1 5 F__law_fractions := by
  have nd : (["w", "one", "other"] : List Str).Nodup := by decide +kernel
  refine df_of (N := ["w", "one", "other"]) (ps := ["w"]) F ⟨rfl, rfl, rfl, nd, rfl, by decide +kernel, by decide +kernel⟩ rfl rfl gm (F.binds (ps := ["w"]) fun _ _ _ _ _ _ us hl => match us, hl with | [_], _ => rfl) fun cdv A outer s0 H E aw hr => ?_
  exact (ss_cons (ss_par (ps_par (i := 1) (j := 2) rfl nd rfl rfl (by decide) rfl rfl (sa_cons (se_call h__law_part hr (by decide) rfl (sa_cons (se_var (pv 0)) sa_nil)) (sa_cons (se_call h__law_part hr (by decide) rfl (sa_cons (se_var (pv 0)) sa_nil)) sa_nil)) (by rfl))) (ss_cons (ss_if (st_w (sw_or (st_notB (se_call h_is_fraction hr (by decide) rfl (sa_cons (se_var (pv 1)) sa_nil)) se_bl) (sw_or (st_ne hr (se_call h_fraction hr (by decide) rfl (sa_cons (se_mul (se_ix (se_var (pv 1)) se_int) se_int) (sa_cons (se_mul (se_ix (se_var (pv 1)) se_int) se_int) sa_nil))) (se_var (pv 1))) (sw_or (st_ne hr (se_call h_fraction hr (by decide) rfl (sa_cons (se_ix (se_var (pv 1)) se_int) (sa_cons (se_sub se_int (se_ix (se_var (pv 1)) se_int)) sa_nil))) (se_call h__law_frac hr (by decide) rfl (sa_cons (se_sub se_int (se_ix (se_var (pv 1)) se_int)) (sa_cons (se_ix (se_var (pv 1)) se_int) sa_nil)))) (sw_or1 (st_ne hr (se_call h_whole hr (by decide) rfl (sa_cons se_int sa_nil)) (se_tup (sa_cons se_int (sa_cons se_int sa_nil))))))))) (ss_one (ss_ret se_bl)) ss_nil) (ss_cons (ss_if (st_w (sw_or (st_ne hr (se_call h_minus hr (by decide) rfl (sa_cons (se_var (pv 1)) (sa_cons (se_var (pv 2)) sa_nil))) (se_call h__law_less hr (by decide) rfl (sa_cons (se_var (pv 1)) (sa_cons (se_var (pv 2)) sa_nil)))) (sw_or (st_ne hr (se_call h_times hr (by decide) rfl (sa_cons (se_var (pv 1)) (sa_cons (se_var (pv 2)) sa_nil))) (se_call h__law_mul hr (by decide) rfl (sa_cons (se_var (pv 1)) (sa_cons (se_var (pv 2)) sa_nil)))) (sw_or (st_ne hr (se_call h_turned hr (by decide) rfl (sa_cons (se_var (pv 1)) sa_nil)) (se_call h__law_frac hr (by decide) rfl (sa_cons (se_sub se_int (se_ix (se_var (pv 1)) se_int)) (sa_cons (se_ix (se_var (pv 1)) se_int) sa_nil)))) (sw_or1 (st_ne hr (se_call h_square hr (by decide) rfl (sa_cons (se_var (pv 1)) sa_nil)) (se_call h__law_mul hr (by decide) rfl (sa_cons (se_var (pv 1)) (sa_cons (se_var (pv 1)) sa_nil))))))))) (ss_one (ss_ret se_bl)) ss_nil) (ss_cons (ss_if (st_w (sw_or (st_ne hr (se_call h_half hr (by decide) rfl (sa_cons (se_var (pv 1)) sa_nil)) (se_call h__law_frac hr (by decide) rfl (sa_cons (se_ix (se_var (pv 1)) se_int) (sa_cons (se_mul se_int (se_ix (se_var (pv 1)) se_int)) sa_nil)))) (sw_or (st_ne hr (se_call h_sign hr (by decide) rfl (sa_cons (se_var (pv 1)) sa_nil)) (se_call h__law_sgn hr (by decide) rfl (sa_cons (se_var (pv 1)) sa_nil))) (sw_or (st_ne hr (se_call h_is_less hr (by decide) rfl (sa_cons (se_var (pv 1)) (sa_cons (se_var (pv 2)) sa_nil))) (se_lt (se_mul (se_ix (se_var (pv 1)) se_int) (se_ix (se_var (pv 2)) se_int)) (se_mul (se_ix (se_var (pv 2)) se_int) (se_ix (se_var (pv 1)) se_int)))) (sw_or1 (st_ne hr (se_call h_floor hr (by decide) rfl (sa_cons (se_var (pv 1)) sa_nil)) (se_div (se_ix (se_var (pv 1)) se_int) (se_ix (se_var (pv 1)) se_int)))))))) (ss_one (ss_ret se_bl)) ss_nil) (ss_cons (ss_if (st_w (sw_or (st_ne hr (se_call h_middle hr (by decide) rfl (sa_cons (se_var (pv 1)) (sa_cons (se_var (pv 2)) sa_nil))) (se_call h__law_over hr (by decide) rfl (sa_cons (se_call h__law_add hr (by decide) rfl (sa_cons (se_var (pv 1)) (sa_cons (se_var (pv 2)) sa_nil))) (sa_cons (se_tup (sa_cons se_int (sa_cons se_int sa_nil))) sa_nil)))) (sw_or (st_ne hr (se_call h_sum_of hr (by decide) rfl (sa_cons (se_lst (sa_cons (se_var (pv 1)) (sa_cons (se_var (pv 2)) (sa_cons (se_var (pv 1)) sa_nil)))) sa_nil)) (se_call h__law_add hr (by decide) rfl (sa_cons (se_call h__law_add hr (by decide) rfl (sa_cons (se_var (pv 1)) (sa_cons (se_var (pv 2)) sa_nil))) (sa_cons (se_var (pv 1)) sa_nil)))) (sw_or1 (st_ne hr (se_call h_sum_of hr (by decide) rfl (sa_cons (se_lst sa_nil) sa_nil)) (se_tup (sa_cons se_int (sa_cons se_int sa_nil)))))))) (ss_one (ss_ret se_bl)) ss_nil) (ss_one (ss_ret (se_or (se_eq hr (se_ix (se_var (pv 2)) se_int) se_int) (se_one (se_eq hr (se_call h_over hr (by decide) rfl (sa_cons (se_var (pv 1)) (sa_cons (se_var (pv 2)) sa_nil))) (se_call h__law_over hr (by decide) rfl (sa_cons (se_var (pv 1)) (sa_cons (se_var (pv 2)) sa_nil)))))))))))))
theorem ok__law_pick {f : Addr} {fd : FuncData} (F : Fun K "_law_pick" "_law_pick" s__law_pick f fd) (gm : mg "_law_pick" = some (.ref f)) (b_len : mg "len" = none) (h__law_next : Df P w K mg base "_law_next" 2 1 F__law_next) : Df P w K mg base "_law_pick" 2 2 F__law_pick := by
  have nd : (["w", "rows"] : List Str).Nodup := by decide +kernel
  refine df_of (N := ["w", "rows"]) (ps := ["w", "rows"]) F ⟨rfl, rfl, rfl, nd, rfl, by decide +kernel, by decide +kernel⟩ rfl rfl gm (F.binds (ps := ["w", "rows"]) fun _ _ _ _ _ _ us hl => match us, hl with | [_, _], _ => rfl) fun cdv A outer s0 H E aw hr => ?_
  exact (ss_one (ss_ret (se_ix (se_var (pv 1)) (se_call h__law_next hr (by decide) rfl (sa_cons (se_var (pv 0)) (sa_cons (se_len rfl b_len (sa_cons (se_var (pv 1)) sa_nil)) sa_nil))))))
theorem ok_plain {f : Addr} {fd : FuncData} (F : Fun K "plain" "plain" s_plain f fd) (gm : mg "plain" = some (.ref f)) (k_NOTHING : Kst K mg "NOTHING" c_NOTHING) : Df P w K mg base "plain" 1 1 F_plain := by
  have nd : (["a"] : List Str).Nodup := by decide +kernel
  refine df_of (N := ["a"]) (ps := ["a"]) F ⟨rfl, rfl, rfl, nd, rfl, by decide +kernel, by decide +kernel⟩ rfl rfl gm (F.binds (ps := ["a"]) fun _ _ _ _ _ _ us hl => match us, hl with | [_], _ => rfl) fun cdv A outer s0 H E aw hr => ?_
  exact (ss_one (ss_ret (se_tup (sa_cons (se_var (pv 0)) (sa_cons (se_glob k_NOTHING rfl) (sa_cons (se_glob k_NOTHING rfl) sa_nil))))))
theorem ok_whole_root {f : Addr} {fd : FuncData} (F : Fun K "whole_root" "whole_root" s_whole_root f fd) (gm : mg "whole_root" = some (.ref f)) : Df P w K mg base "whole_root" 1 1 F_whole_root := by
  have nd : (["number", "low", "high", "middle"] : List Str).Nodup := by decide +kernel
  refine df_of (N := ["number", "low", "high", "middle"]) (ps := ["number"]) F ⟨rfl, rfl, rfl, nd, rfl, by decide +kernel, by decide +kernel⟩ rfl rfl gm (F.binds (ps := ["number"]) fun _ _ _ _ _ _ us hl => match us, hl with | [_], _ => rfl) fun cdv A outer s0 H E aw hr => ?_
  exact (ss_cons (ss_par (ps_par (i := 1) (j := 2) rfl nd rfl rfl (by decide) rfl rfl (sa_cons se_int (sa_cons (se_add (se_var (pv 0)) se_int) sa_nil)) (by rfl))) (ss_cons (ss_while PassesOwn.never (st_gt (se_sub (se_var (pv 2)) (se_var (pv 1))) se_int) (ss_cons (ss_set (i := 3) nd rfl (Or.inl rfl) (se_div (se_add (se_var (pv 1)) (se_var (pv 2))) se_int)) (ss_one (ss_if (st_le (se_mul (se_var (pv 3)) (se_var (pv 3))) (se_var (pv 0))) (ss_one (ss_set (i := 1) nd rfl (Or.inl rfl) (se_var (pv 3)))) (ss_one (ss_set (i := 2) nd rfl (Or.inl rfl) (se_var (pv 3)))))))) (ss_one (ss_ret (se_if (st_eq hr (se_mul (se_var (pv 1)) (se_var (pv 1))) (se_var (pv 0))) (se_var (pv 1)) se_non)))))
theorem ok_tidy {f : Addr} {fd : FuncData} (F : Fun K "tidy" "tidy" s_tidy f fd) (gm : mg "tidy" = some (.ref f)) (k_NOTHING : Kst K mg "NOTHING" c_NOTHING) (h_plain : Df P w K mg base "plain" 1 1 F_plain) (h_whole_root : Df P w K mg base "whole_root" 1 1 F_whole_root) (h_times : Df P w K mg base "times" 2 3 F_times) (h_added : Df P w K mg base "added" 2 3 F_added) : Df P w K mg base "tidy" 3 4 F_tidy := by
  have nd : (["a", "b", "c", "upper", "lower"] : List Str).Nodup := by decide +kernel
  refine df_of (N := ["a", "b", "c", "upper", "lower"]) (ps := ["a", "b", "c"]) F ⟨rfl, rfl, rfl, nd, rfl, by decide +kernel, by decide +kernel⟩ rfl rfl gm (F.binds (ps := ["a", "b", "c"]) fun _ _ _ _ _ _ us hl => match us, hl with | [_, _, _], _ => rfl) fun cdv A outer s0 H E aw hr => ?_
  exact (ss_cons (ss_if (st_w (sw_or (st_eq hr (se_var (pv 1)) (se_glob k_NOTHING rfl)) (sw_or1 (st_eq hr (se_var (pv 2)) (se_glob k_NOTHING rfl))))) (ss_one (ss_ret (se_call h_plain hr (by decide) rfl (sa_cons (se_var (pv 0)) sa_nil)))) ss_nil) (ss_cons (ss_par (ps_par (i := 3) (j := 4) rfl nd rfl rfl (by decide) rfl rfl (sa_cons (se_call h_whole_root hr (by decide) rfl (sa_cons (se_ix (se_var (pv 2)) se_int) sa_nil)) (sa_cons (se_call h_whole_root hr (by decide) rfl (sa_cons (se_ix (se_var (pv 2)) se_int) sa_nil)) sa_nil)) (by rfl))) (ss_cons (ss_if (st_w (sw_and (st_notN (se_var (pv 3)) se_non) (sw_and1 (st_notN (se_var (pv 4)) se_non)))) (ss_one (ss_ret (se_call h_plain hr (by decide) rfl (sa_cons (se_call h_added hr (by decide) rfl (sa_cons (se_var (pv 0)) (sa_cons (se_call h_times hr (by decide) rfl (sa_cons (se_var (pv 1)) (sa_cons (se_tup (sa_cons (se_var (pv 3)) (sa_cons (se_var (pv 4)) sa_nil))) sa_nil))) sa_nil))) sa_nil)))) ss_nil) (ss_one (ss_ret (se_tup (sa_cons (se_var (pv 0)) (sa_cons (se_var (pv 1)) (sa_cons (se_var (pv 2)) sa_nil)))))))))
theorem ok__law_number {f : Addr} {fd : FuncData} (F : Fun K "_law_number" "_law_number" s__law_number f fd) (gm : mg "_law_number" = some (.ref f)) (h__law_part : Df P w K mg base "_law_part" 1 2 F__law_part) (h_tidy : Df P w K mg base "tidy" 3 4 F_tidy) : Df P w K mg base "_law_number" 2 5 F__law_number := by
  have nd : (["w", "c"] : List Str).Nodup := by decide +kernel
  refine df_of (N := ["w", "c"]) (ps := ["w", "c"]) F ⟨rfl, rfl, rfl, nd, rfl, by decide +kernel, by decide +kernel⟩ rfl rfl gm (F.binds (ps := ["w", "c"]) fun _ _ _ _ _ _ us hl => match us, hl with | [_, _], _ => rfl) fun cdv A outer s0 H E aw hr => ?_
  exact (ss_one (ss_ret (se_call h_tidy hr (by decide) rfl (sa_cons (se_call h__law_part hr (by decide) rfl (sa_cons (se_var (pv 0)) sa_nil)) (sa_cons (se_call h__law_part hr (by decide) rfl (sa_cons (se_var (pv 0)) sa_nil)) (sa_cons (se_var (pv 1)) sa_nil))))))
theorem ok__law_sign {f : Addr} {fd : FuncData} (F : Fun K "_law_sign" "_law_sign" s__law_sign f fd) (gm : mg "_law_sign" = some (.ref f)) (h__law_sgn : Df P w K mg base "_law_sgn" 1 1 F__law_sgn) (h__law_mul : Df P w K mg base "_law_mul" 2 2 F__law_mul) (h__law_less : Df P w K mg base "_law_less" 2 2 F__law_less) : Df P w K mg base "_law_sign" 1 3 F__law_sign := by
  have nd : (["one", "a", "b", "c", "s", "t", "gap"] : List Str).Nodup := by decide +kernel
  refine df_of (N := ["one", "a", "b", "c", "s", "t", "gap"]) (ps := ["one"]) F ⟨rfl, rfl, rfl, nd, rfl, by decide +kernel, by decide +kernel⟩ rfl rfl gm (F.binds (ps := ["one"]) fun _ _ _ _ _ _ us hl => match us, hl with | [_], _ => rfl) fun cdv A outer s0 H E aw hr => ?_
  exact (ss_cons (ss_asg (se_var (pv 0)) (sg_tup rfl (sgs_cons (sg_name (pg_name (i := 1) nd rfl (Or.inl rfl))) (sgs_cons (sg_name (pg_name (i := 2) nd rfl (Or.inl rfl))) (sgs_cons (sg_name (pg_name (i := 3) nd rfl (Or.inl rfl))) sgs_nil))))) (ss_cons (ss_par (ps_par (i := 4) (j := 5) rfl nd rfl rfl (by decide) rfl rfl (sa_cons (se_call h__law_sgn hr (by decide) rfl (sa_cons (se_var (pv 1)) sa_nil)) (sa_cons (se_if (st_gt (se_ix (se_var (pv 3)) se_int) se_int) (se_call h__law_sgn hr (by decide) rfl (sa_cons (se_var (pv 2)) sa_nil)) se_int) sa_nil)) (by rfl))) (ss_cons (ss_if (st_w (sw_or (st_eq hr (se_var (pv 4)) (se_var (pv 5))) (sw_or1 (st_eq hr (se_var (pv 5)) se_int)))) (ss_one (ss_ret (se_var (pv 4)))) ss_nil) (ss_cons (ss_set (i := 6) nd rfl (Or.inl rfl) (se_call h__law_sgn hr (by decide) rfl (sa_cons (se_call h__law_less hr (by decide) rfl (sa_cons (se_call h__law_mul hr (by decide) rfl (sa_cons (se_var (pv 1)) (sa_cons (se_var (pv 1)) sa_nil))) (sa_cons (se_call h__law_mul hr (by decide) rfl (sa_cons (se_call h__law_mul hr (by decide) rfl (sa_cons (se_var (pv 2)) (sa_cons (se_var (pv 2)) sa_nil))) (sa_cons (se_var (pv 3)) sa_nil))) sa_nil))) sa_nil))) (ss_one (ss_ret (se_if (st_eq hr (se_var (pv 4)) se_int) (se_var (pv 5)) (se_mul (se_var (pv 4)) (se_var (pv 6))))))))))
theorem ok_times_root {f : Addr} {fd : FuncData} (F : Fun K "times_root" "times_root" s_times_root f fd) (gm : mg "times_root" = some (.ref f)) (k_NOTHING : Kst K mg "NOTHING" c_NOTHING) (h_times : Df P w K mg base "times" 2 3 F_times) (h_added : Df P w K mg base "added" 2 3 F_added) (h_tidy : Df P w K mg base "tidy" 3 4 F_tidy) : Df P w K mg base "times_root" 2 5 F_times_root := by
  have nd : (["one", "other", "c", "a"] : List Str).Nodup := by decide +kernel
  refine df_of (N := ["one", "other", "c", "a"]) (ps := ["one", "other"]) F ⟨rfl, rfl, rfl, nd, rfl, by decide +kernel, by decide +kernel⟩ rfl rfl gm (F.binds (ps := ["one", "other"]) fun _ _ _ _ _ _ us hl => match us, hl with | [_, _], _ => rfl) fun cdv A outer s0 H E aw hr => ?_
  exact (ss_cons (ss_set (i := 2) nd rfl (Or.inl rfl) (se_if (st_ne hr (se_ix (se_var (pv 0)) se_int) (se_glob k_NOTHING rfl)) (se_ix (se_var (pv 0)) se_int) (se_ix (se_var (pv 1)) se_int))) (ss_cons (ss_set (i := 3) nd rfl (Or.inl rfl) (se_call h_added hr (by decide) rfl (sa_cons (se_call h_times hr (by decide) rfl (sa_cons (se_ix (se_var (pv 0)) se_int) (sa_cons (se_ix (se_var (pv 1)) se_int) sa_nil))) (sa_cons (se_call h_times hr (by decide) rfl (sa_cons (se_call h_times hr (by decide) rfl (sa_cons (se_ix (se_var (pv 0)) se_int) (sa_cons (se_ix (se_var (pv 1)) se_int) sa_nil))) (sa_cons (se_var (pv 2)) sa_nil))) sa_nil)))) (ss_one (ss_ret (se_call h_tidy hr (by decide) rfl (sa_cons (se_var (pv 3)) (sa_cons (se_call h_added hr (by decide) rfl (sa_cons (se_call h_times hr (by decide) rfl (sa_cons (se_ix (se_var (pv 0)) se_int) (sa_cons (se_ix (se_var (pv 1)) se_int) sa_nil))) (sa_cons (se_call h_times hr (by decide) rfl (sa_cons (se_ix (se_var (pv 0)) se_int) (sa_cons (se_ix (se_var (pv 1)) se_int) sa_nil))) sa_nil))) (sa_cons (se_var (pv 2)) sa_nil))))))))
theorem ok__law_compare {f : Addr} {fd : FuncData} (F : Fun K "_law_compare" "_law_compare" s__law_compare f fd) (gm : mg "_law_compare" = some (.ref f)) (h__law_less : Df P w K mg base "_law_less" 2 2 F__law_less) (h__law_sign : Df P w K mg base "_law_sign" 1 3 F__law_sign) (h__law_sgn : Df P w K mg base "_law_sgn" 1 1 F__law_sgn) (h__law_mul : Df P w K mg base "_law_mul" 2 2 F__law_mul) (h__law_add : Df P w K mg base "_law_add" 2 2 F__law_add) : Df P w K mg base "_law_compare" 2 4 F__law_compare := by
  have nd : (["one", "other", "a", "b", "c", "d", "e", "f", "left", "right", "gap", "gap_square"] : List Str).Nodup := by decide +kernel
  refine df_of (N := ["one", "other", "a", "b", "c", "d", "e", "f", "left", "right", "gap", "gap_square"]) (ps := ["one", "other"]) F ⟨rfl, rfl, rfl, nd, rfl, by decide +kernel, by decide +kernel⟩ rfl rfl gm (F.binds (ps := ["one", "other"]) fun _ _ _ _ _ _ us hl => match us, hl with | [_, _], _ => rfl) fun cdv A outer s0 H E aw hr => ?_
  exact (ss_cons (ss_asg (se_tup (sa_cons (se_var (pv 0)) (sa_cons (se_var (pv 1)) sa_nil))) (sg_tup rfl (sgs_cons (sg_tup rfl (sgs_cons (sg_name (pg_name (i := 2) nd rfl (Or.inl rfl))) (sgs_cons (sg_name (pg_name (i := 3) nd rfl (Or.inl rfl))) (sgs_cons (sg_name (pg_name (i := 4) nd rfl (Or.inl rfl))) sgs_nil)))) (sgs_cons (sg_tup rfl (sgs_cons (sg_name (pg_name (i := 5) nd rfl (Or.inl rfl))) (sgs_cons (sg_name (pg_name (i := 6) nd rfl (Or.inl rfl))) (sgs_cons (sg_name (pg_name (i := 7) nd rfl (Or.inl rfl))) sgs_nil)))) sgs_nil)))) (ss_cons (ss_par (ps_par (i := 8) (j := 9) rfl nd rfl rfl (by decide) rfl rfl (sa_cons (se_call h__law_sign hr (by decide) rfl (sa_cons (se_tup (sa_cons (se_call h__law_less hr (by decide) rfl (sa_cons (se_var (pv 2)) (sa_cons (se_var (pv 5)) sa_nil))) (sa_cons (se_var (pv 3)) (sa_cons (se_var (pv 4)) sa_nil)))) sa_nil)) (sa_cons (se_if (st_gt (se_ix (se_var (pv 7)) se_int) se_int) (se_sub se_int (se_call h__law_sgn hr (by decide) rfl (sa_cons (se_var (pv 6)) sa_nil))) se_int) sa_nil)) (by rfl))) (ss_cons (ss_if (st_w (sw_or (st_eq hr (se_var (pv 9)) se_int) (sw_or1 (st_eq hr (se_var (pv 8)) (se_var (pv 9)))))) (ss_one (ss_ret (se_var (pv 8)))) ss_nil) (ss_cons (ss_if (st_eq hr (se_var (pv 8)) se_int) (ss_one (ss_ret (se_var (pv 9)))) ss_nil) (ss_cons (ss_set (i := 10) nd rfl (Or.inl rfl) (se_call h__law_less hr (by decide) rfl (sa_cons (se_var (pv 2)) (sa_cons (se_var (pv 5)) sa_nil)))) (ss_cons (ss_set (i := 11) nd rfl (Or.inl rfl) (se_call h__law_less hr (by decide) rfl (sa_cons (se_call h__law_add hr (by decide) rfl (sa_cons (se_call h__law_mul hr (by decide) rfl (sa_cons (se_var (pv 10)) (sa_cons (se_var (pv 10)) sa_nil))) (sa_cons (se_call h__law_mul hr (by decide) rfl (sa_cons (se_call h__law_mul hr (by decide) rfl (sa_cons (se_var (pv 3)) (sa_cons (se_var (pv 3)) sa_nil))) (sa_cons (se_var (pv 4)) sa_nil))) sa_nil))) (sa_cons (se_call h__law_mul hr (by decide) rfl (sa_cons (se_call h__law_mul hr (by decide) rfl (sa_cons (se_var (pv 6)) (sa_cons (se_var (pv 6)) sa_nil))) (sa_cons (se_var (pv 7)) sa_nil))) sa_nil)))) (ss_one (ss_ret (se_mul (se_var (pv 8)) (se_call h__law_sign hr (by decide) rfl (sa_cons (se_tup (sa_cons (se_var (pv 11)) (sa_cons (se_call h__law_mul hr (by decide) rfl (sa_cons (se_tup (sa_cons se_int (sa_cons se_int sa_nil))) (sa_cons (se_call h__law_mul hr (by decide) rfl (sa_cons (se_var (pv 10)) (sa_cons (se_var (pv 3)) sa_nil))) sa_nil))) (sa_cons (se_var (pv 4)) sa_nil)))) sa_nil)))))))))))
theorem ok__law_is {f : Addr} {fd : FuncData} (F : Fun K "_law_is" "_law_is" s__law_is f fd) (gm : mg "_law_is" = some (.ref f)) (h_is_root : Df P w K mg base "is_root" 1 3 F_is_root) (h__law_compare : Df P w K mg base "_law_compare" 2 4 F__law_compare) : Df P w K mg base "_law_is" 4 5 F__law_is := by
  have nd : (["seen", "a", "b", "c"] : List Str).Nodup := by decide +kernel
  refine df_of (N := ["seen", "a", "b", "c"]) (ps := ["seen", "a", "b", "c"]) F ⟨rfl, rfl, rfl, nd, rfl, by decide +kernel, by decide +kernel⟩ rfl rfl gm (F.binds (ps := ["seen", "a", "b", "c"]) fun _ _ _ _ _ _ us hl => match us, hl with | [_, _, _, _], _ => rfl) fun cdv A outer s0 H E aw hr => ?_
  exact (ss_one (ss_ret (se_and (se_isB (se_call h_is_root hr (by decide) rfl (sa_cons (se_var (pv 0)) sa_nil)) se_bl) (se_one (se_eq hr (se_call h__law_compare hr (by decide) rfl (sa_cons (se_var (pv 0)) (sa_cons (se_tup (sa_cons (se_var (pv 1)) (sa_cons (se_var (pv 2)) (sa_cons (se_var (pv 3)) sa_nil)))) sa_nil))) se_int)))))
theorem ok_over_root {f : Addr} {fd : FuncData} (F : Fun K "over_root" "over_root" s_over_root f fd) (gm : mg "over_root" = some (.ref f)) (h_square : Df P w K mg base "square" 1 1 F_square) (h_times : Df P w K mg base "times" 2 3 F_times) (h_minus : Df P w K mg base "minus" 2 3 F_minus) (h_over : Df P w K mg base "over" 2 3 F_over) (h_turned : Df P w K mg base "turned" 1 1 F_turned) (h_tidy : Df P w K mg base "tidy" 3 4 F_tidy) (h_times_root : Df P w K mg base "times_root" 2 5 F_times_root) : Df P w K mg base "over_root" 2 6 F_over_root := by
  have nd : (["one", "other", "a", "b", "c", "low", "back"] : List Str).Nodup := by decide +kernel
  refine df_of (N := ["one", "other", "a", "b", "c", "low", "back"]) (ps := ["one", "other"]) F ⟨rfl, rfl, rfl, nd, rfl, by decide +kernel, by decide +kernel⟩ rfl rfl gm (F.binds (ps := ["one", "other"]) fun _ _ _ _ _ _ us hl => match us, hl with | [_, _], _ => rfl) fun cdv A outer s0 H E aw hr => ?_
  exact (ss_cons (ss_asg (se_var (pv 1)) (sg_tup rfl (sgs_cons (sg_name (pg_name (i := 2) nd rfl (Or.inl rfl))) (sgs_cons (sg_name (pg_name (i := 3) nd rfl (Or.inl rfl))) (sgs_cons (sg_name (pg_name (i := 4) nd rfl (Or.inl rfl))) sgs_nil))))) (ss_cons (ss_set (i := 5) nd rfl (Or.inl rfl) (se_call h_minus hr (by decide) rfl (sa_cons (se_call h_square hr (by decide) rfl (sa_cons (se_var (pv 2)) sa_nil)) (sa_cons (se_call h_times hr (by decide) rfl (sa_cons (se_call h_square hr (by decide) rfl (sa_cons (se_var (pv 3)) sa_nil)) (sa_cons (se_var (pv 4)) sa_nil))) sa_nil)))) (ss_cons (ss_set (i := 6) nd rfl (Or.inl rfl) (se_call h_tidy hr (by decide) rfl (sa_cons (se_call h_over hr (by decide) rfl (sa_cons (se_var (pv 2)) (sa_cons (se_var (pv 5)) sa_nil))) (sa_cons (se_call h_turned hr (by decide) rfl (sa_cons (se_call h_over hr (by decide) rfl (sa_cons (se_var (pv 3)) (sa_cons (se_var (pv 5)) sa_nil))) sa_nil)) (sa_cons (se_var (pv 4)) sa_nil))))) (ss_one (ss_ret (se_call h_times_root hr (by decide) rfl (sa_cons (se_var (pv 0)) (sa_cons (se_var (pv 6)) sa_nil))))))))
theorem ok_sign_of_root {f : Addr} {fd : FuncData} (F : Fun K "sign_of_root" "sign_of_root" s_sign_of_root f fd) (gm : mg "sign_of_root" = some (.ref f)) (k_NOTHING : Kst K mg "NOTHING" c_NOTHING) (h_sign : Df P w K mg base "sign" 1 2 F_sign) (h_square : Df P w K mg base "square" 1 1 F_square) (h_times : Df P w K mg base "times" 2 3 F_times) (h_minus : Df P w K mg base "minus" 2 3 F_minus) : Df P w K mg base "sign_of_root" 1 4 F_sign_of_root := by
  have nd : (["one", "a", "b", "c", "first", "second", "gap"] : List Str).Nodup := by decide +kernel
  refine df_of (N := ["one", "a", "b", "c", "first", "second", "gap"]) (ps := ["one"]) F ⟨rfl, rfl, rfl, nd, rfl, by decide +kernel, by decide +kernel⟩ rfl rfl gm (F.binds (ps := ["one"]) fun _ _ _ _ _ _ us hl => match us, hl with | [_], _ => rfl) fun cdv A outer s0 H E aw hr => ?_
  exact (ss_cons (ss_asg (se_var (pv 0)) (sg_tup rfl (sgs_cons (sg_name (pg_name (i := 1) nd rfl (Or.inl rfl))) (sgs_cons (sg_name (pg_name (i := 2) nd rfl (Or.inl rfl))) (sgs_cons (sg_name (pg_name (i := 3) nd rfl (Or.inl rfl))) sgs_nil))))) (ss_cons (ss_par (ps_par (i := 4) (j := 5) rfl nd rfl rfl (by decide) rfl rfl (sa_cons (se_call h_sign hr (by decide) rfl (sa_cons (se_var (pv 1)) sa_nil)) (sa_cons (se_if (st_ne hr (se_var (pv 3)) (se_glob k_NOTHING rfl)) (se_call h_sign hr (by decide) rfl (sa_cons (se_var (pv 2)) sa_nil)) se_int) sa_nil)) (by rfl))) (ss_cons (ss_if (st_w (sw_or (st_eq hr (se_var (pv 4)) (se_var (pv 5))) (sw_or1 (st_eq hr (se_var (pv 5)) se_int)))) (ss_one (ss_ret (se_var (pv 4)))) ss_nil) (ss_cons (ss_if (st_eq hr (se_var (pv 4)) se_int) (ss_one (ss_ret (se_var (pv 5)))) ss_nil) (ss_cons (ss_set (i := 6) nd rfl (Or.inl rfl) (se_call h_sign hr (by decide) rfl (sa_cons (se_call h_minus hr (by decide) rfl (sa_cons (se_call h_square hr (by decide) rfl (sa_cons (se_var (pv 1)) sa_nil)) (sa_cons (se_call h_times hr (by decide) rfl (sa_cons (se_call h_square hr (by decide) rfl (sa_cons (se_var (pv 2)) sa_nil)) (sa_cons (se_var (pv 3)) sa_nil))) sa_nil))) sa_nil))) (ss_one (ss_ret (se_if (st_ne hr (se_var (pv 6)) se_int) (se_mul (se_var (pv 4)) (se_var (pv 6))) se_int))))))))
theorem ok_root_of {f : Addr} {fd : FuncData} (F : Fun K "root_of" "root_of" s_root_of f fd) (gm : mg "root_of" = some (.ref f)) (k_NOTHING : Kst K mg "NOTHING" c_NOTHING) (k_WHOLE : Kst K mg "WHOLE" c_WHOLE) (h_tidy : Df P w K mg base "tidy" 3 4 F_tidy) : Df P w K mg base "root_of" 1 5 F_root_of := by
  have nd : (["c"] : List Str).Nodup := by decide +kernel
  refine df_of (N := ["c"]) (ps := ["c"]) F ⟨rfl, rfl, rfl, nd, rfl, by decide +kernel, by decide +kernel⟩ rfl rfl gm (F.binds (ps := ["c"]) fun _ _ _ _ _ _ us hl => match us, hl with | [_], _ => rfl) fun cdv A outer s0 H E aw hr => ?_
  exact (ss_one (ss_ret (se_call h_tidy hr (by decide) rfl (sa_cons (se_glob k_NOTHING rfl) (sa_cons (se_glob k_WHOLE rfl) (sa_cons (se_var (pv 0)) sa_nil))))))
theorem ok_added_root {f : Addr} {fd : FuncData} (F : Fun K "added_root" "added_root" s_added_root f fd) (gm : mg "added_root" = some (.ref f)) (k_NOTHING : Kst K mg "NOTHING" c_NOTHING) (h_added : Df P w K mg base "added" 2 3 F_added) (h_tidy : Df P w K mg base "tidy" 3 4 F_tidy) : Df P w K mg base "added_root" 2 5 F_added_root := by
  have nd : (["one", "other", "c"] : List Str).Nodup := by decide +kernel
  refine df_of (N := ["one", "other", "c"]) (ps := ["one", "other"]) F ⟨rfl, rfl, rfl, nd, rfl, by decide +kernel, by decide +kernel⟩ rfl rfl gm (F.binds (ps := ["one", "other"]) fun _ _ _ _ _ _ us hl => match us, hl with | [_, _], _ => rfl) fun cdv A outer s0 H E aw hr => ?_
  exact (ss_cons (ss_set (i := 2) nd rfl (Or.inl rfl) (se_if (st_ne hr (se_ix (se_var (pv 0)) se_int) (se_glob k_NOTHING rfl)) (se_ix (se_var (pv 0)) se_int) (se_ix (se_var (pv 1)) se_int))) (ss_one (ss_ret (se_call h_tidy hr (by decide) rfl (sa_cons (se_call h_added hr (by decide) rfl (sa_cons (se_ix (se_var (pv 0)) se_int) (sa_cons (se_ix (se_var (pv 1)) se_int) sa_nil))) (sa_cons (se_call h_added hr (by decide) rfl (sa_cons (se_ix (se_var (pv 0)) se_int) (sa_cons (se_ix (se_var (pv 1)) se_int) sa_nil))) (sa_cons (se_var (pv 2)) sa_nil)))))))
theorem ok_turned_root {f : Addr} {fd : FuncData} (F : Fun K "turned_root" "turned_root" s_turned_root f fd) (gm : mg "turned_root" = some (.ref f)) (h_turned : Df P w K mg base "turned" 1 1 F_turned) : Df P w K mg base "turned_root" 1 2 F_turned_root := by
  have nd : (["one"] : List Str).Nodup := by decide +kernel
  refine df_of (N := ["one"]) (ps := ["one"]) F ⟨rfl, rfl, rfl, nd, rfl, by decide +kernel, by decide +kernel⟩ rfl rfl gm (F.binds (ps := ["one"]) fun _ _ _ _ _ _ us hl => match us, hl with | [_], _ => rfl) fun cdv A outer s0 H E aw hr => ?_
  exact (ss_one (ss_ret (se_tup (sa_cons (se_call h_turned hr (by decide) rfl (sa_cons (se_ix (se_var (pv 0)) se_int) sa_nil)) (sa_cons (se_call h_turned hr (by decide) rfl (sa_cons (se_ix (se_var (pv 0)) se_int) sa_nil)) (sa_cons (se_ix (se_var (pv 0)) se_int) sa_nil))))))
theorem ok_minus_root {f : Addr} {fd : FuncData} (F : Fun K "minus_root" "minus_root" s_minus_root f fd) (gm : mg "minus_root" = some (.ref f)) (h_turned_root : Df P w K mg base "turned_root" 1 2 F_turned_root) (h_added_root : Df P w K mg base "added_root" 2 5 F_added_root) : Df P w K mg base "minus_root" 2 6 F_minus_root := by
  have nd : (["one", "other"] : List Str).Nodup := by decide +kernel
  refine df_of (N := ["one", "other"]) (ps := ["one", "other"]) F ⟨rfl, rfl, rfl, nd, rfl, by decide +kernel, by decide +kernel⟩ rfl rfl gm (F.binds (ps := ["one", "other"]) fun _ _ _ _ _ _ us hl => match us, hl with | [_, _], _ => rfl) fun cdv A outer s0 H E aw hr => ?_
  exact (ss_one (ss_ret (se_call h_added_root hr (by decide) rfl (sa_cons (se_var (pv 0)) (sa_cons (se_call h_turned_root hr (by decide) rfl (sa_cons (se_var (pv 1)) sa_nil)) sa_nil)))))
theorem ok_by_fraction {f : Addr} {fd : FuncData} (F : Fun K "by_fraction" "by_fraction" s_by_fraction f fd) (gm : mg "by_fraction" = some (.ref f)) (h_times : Df P w K mg base "times" 2 3 F_times) (h_tidy : Df P w K mg base "tidy" 3 4 F_tidy) : Df P w K mg base "by_fraction" 2 5 F_by_fraction := by
  have nd : (["one", "part"] : List Str).Nodup := by decide +kernel
  refine df_of (N := ["one", "part"]) (ps := ["one", "part"]) F ⟨rfl, rfl, rfl, nd, rfl, by decide +kernel, by decide +kernel⟩ rfl rfl gm (F.binds (ps := ["one", "part"]) fun _ _ _ _ _ _ us hl => match us, hl with | [_, _], _ => rfl) fun cdv A outer s0 H E aw hr => ?_
  exact (ss_one (ss_ret (se_call h_tidy hr (by decide) rfl (sa_cons (se_call h_times hr (by decide) rfl (sa_cons (se_ix (se_var (pv 0)) se_int) (sa_cons (se_var (pv 1)) sa_nil))) (sa_cons (se_call h_times hr (by decide) rfl (sa_cons (se_ix (se_var (pv 0)) se_int) (sa_cons (se_var (pv 1)) sa_nil))) (sa_cons (se_ix (se_var (pv 0)) se_int) sa_nil))))))
theorem ok__law_sums {f : Addr} {fd : FuncData} (F : Fun K "_law_sums" "_law_sums" s__law_sums f fd) (gm : mg "_law_sums" = some (.ref f)) (h__law_pick : Df P w K mg base "_law_pick" 2 2 F__law_pick) (h__law_number : Df P w K mg base "_law_number" 2 5 F__law_number) (h__law_part : Df P w K mg base "_law_part" 1 2 F__law_part) (h_added_root : Df P w K mg base "added_root" 2 5 F_added_root) (h__law_add : Df P w K mg base "_law_add" 2 2 F__law_add) (h__law_is : Df P w K mg base "_law_is" 4 5 F__law_is) (h_minus_root : Df P w K mg base "minus_root" 2 6 F_minus_root) (h__law_less : Df P w K mg base "_law_less" 2 2 F__law_less) (h__law_mul : Df P w K mg base "_law_mul" 2 2 F__law_mul) (h_times_root : Df P w K mg base "times_root" 2 5 F_times_root) (h_by_fraction : Df P w K mg base "by_fraction" 2 5 F_by_fraction) (h__law_sign : Df P w K mg base "_law_sign" 1 3 F__law_sign) (h_over_root : Df P w K mg base "over_root" 2 6 F_over_root) (h__law_compare : Df P w K mg base "_law_compare" 2 4 F__law_compare) (h_sign_of_root : Df P w K mg base "sign_of_root" 1 4 F_sign_of_root) (h_root_of : Df P w K mg base "root_of" 1 5 F_root_of) (h_plain : Df P w K mg base "plain" 1 1 F_plain) : Df P w K mg base "_law_sums" 1 7 F__law_sums := by
  have nd : (["w", "c", "one", "other", "part", "a", "b", "e", "d", "f", "g", "product", "back"] : List Str).Nodup := by decide +kernel
  refine df_of (N := ["w", "c", "one", "other", "part", "a", "b", "e", "d", "f", "g", "product", "back"]) (ps := ["w"]) F ⟨rfl, rfl, rfl, nd, rfl, by decide +kernel, by decide +kernel⟩ rfl rfl gm (F.binds (ps := ["w"]) fun _ _ _ _ _ _ us hl => match us, hl with | [_], _ => rfl) fun cdv A outer s0 H E aw hr => ?_
  exact (ss_cons (ss_set (i := 1) nd rfl (Or.inl rfl) (se_call h__law_pick hr (by decide) rfl (sa_cons (se_var (pv 0)) (sa_cons (se_lst (sa_cons (se_tup (sa_cons se_int (sa_cons se_int sa_nil))) (sa_cons (se_tup (sa_cons se_int (sa_cons se_int sa_nil))) (sa_cons (se_tup (sa_cons se_int (sa_cons se_int sa_nil))) (sa_cons (se_tup (sa_cons se_int (sa_cons se_int sa_nil))) (sa_cons (se_tup (sa_cons se_int (sa_cons se_int sa_nil))) (sa_cons (se_tup (sa_cons se_int (sa_cons se_int sa_nil))) (sa_cons (se_tup (sa_cons se_int (sa_cons se_int sa_nil))) sa_nil)))))))) sa_nil)))) (ss_cons (ss_par3 (ps_par3 (i := 2) (j := 3) (l := 4) rfl nd rfl rfl rfl (by decide) (by decide) (by decide) rfl rfl rfl (sa_cons (se_call h__law_number hr (by decide) rfl (sa_cons (se_var (pv 0)) (sa_cons (se_var (pv 1)) sa_nil))) (sa_cons (se_call h__law_number hr (by decide) rfl (sa_cons (se_var (pv 0)) (sa_cons (se_var (pv 1)) sa_nil))) (sa_cons (se_call h__law_part hr (by decide) rfl (sa_cons (se_var (pv 0)) sa_nil)) sa_nil))) (by rfl))) (ss_cons (ss_asg (se_tup (sa_cons (se_var (pv 2)) (sa_cons (se_var (pv 3)) sa_nil))) (sg_tup rfl (sgs_cons (sg_tup rfl (sgs_cons (sg_name (pg_name (i := 5) nd rfl (Or.inl rfl))) (sgs_cons (sg_name (pg_name (i := 6) nd rfl (Or.inl rfl))) (sgs_cons (sg_name (pg_name (i := 7) nd rfl (Or.inl rfl))) sgs_nil)))) (sgs_cons (sg_tup rfl (sgs_cons (sg_name (pg_name (i := 8) nd rfl (Or.inl rfl))) (sgs_cons (sg_name (pg_name (i := 9) nd rfl (Or.inl rfl))) (sgs_cons (sg_name (pg_name (i := 10) nd rfl (Or.inl rfl))) sgs_nil)))) sgs_nil)))) (ss_cons (ss_set (i := 7) nd rfl (Or.inl rfl) (se_if (st_gt (se_ix (se_var (pv 7)) se_int) se_int) (se_var (pv 7)) (se_var (pv 10)))) (ss_cons (ss_if (st_w (sw_or (st_not (st_val (se_call h__law_is hr (by decide) rfl (sa_cons (se_call h_added_root hr (by decide) rfl (sa_cons (se_var (pv 2)) (sa_cons (se_var (pv 3)) sa_nil))) (sa_cons (se_call h__law_add hr (by decide) rfl (sa_cons (se_var (pv 5)) (sa_cons (se_var (pv 8)) sa_nil))) (sa_cons (se_call h__law_add hr (by decide) rfl (sa_cons (se_var (pv 6)) (sa_cons (se_var (pv 9)) sa_nil))) (sa_cons (se_var (pv 7)) sa_nil))))))) (sw_or1 (st_not (st_val (se_call h__law_is hr (by decide) rfl (sa_cons (se_call h_minus_root hr (by decide) rfl (sa_cons (se_var (pv 2)) (sa_cons (se_var (pv 3)) sa_nil))) (sa_cons (se_call h__law_less hr (by decide) rfl (sa_cons (se_var (pv 5)) (sa_cons (se_var (pv 8)) sa_nil))) (sa_cons (se_call h__law_less hr (by decide) rfl (sa_cons (se_var (pv 6)) (sa_cons (se_var (pv 9)) sa_nil))) (sa_cons (se_var (pv 7)) sa_nil)))))))))) (ss_one (ss_ret se_bl)) ss_nil) (ss_cons (ss_set (i := 11) nd rfl (Or.inl rfl) (se_tup (sa_cons (se_call h__law_add hr (by decide) rfl (sa_cons (se_call h__law_mul hr (by decide) rfl (sa_cons (se_var (pv 5)) (sa_cons (se_var (pv 8)) sa_nil))) (sa_cons (se_call h__law_mul hr (by decide) rfl (sa_cons (se_call h__law_mul hr (by decide) rfl (sa_cons (se_var (pv 6)) (sa_cons (se_var (pv 9)) sa_nil))) (sa_cons (se_var (pv 7)) sa_nil))) sa_nil))) (sa_cons (se_call h__law_add hr (by decide) rfl (sa_cons (se_call h__law_mul hr (by decide) rfl (sa_cons (se_var (pv 5)) (sa_cons (se_var (pv 9)) sa_nil))) (sa_cons (se_call h__law_mul hr (by decide) rfl (sa_cons (se_var (pv 6)) (sa_cons (se_var (pv 8)) sa_nil))) sa_nil))) (sa_cons (se_var (pv 7)) sa_nil))))) (ss_cons (ss_if (st_w (sw_or (st_not (st_val (se_call h__law_is hr (by decide) rfl (sa_cons (se_call h_times_root hr (by decide) rfl (sa_cons (se_var (pv 2)) (sa_cons (se_var (pv 3)) sa_nil))) (sa_cons (se_ix (se_var (pv 11)) se_int) (sa_cons (se_ix (se_var (pv 11)) se_int) (sa_cons (se_var (pv 7)) sa_nil))))))) (sw_or1 (st_not (st_val (se_call h__law_is hr (by decide) rfl (sa_cons (se_call h_by_fraction hr (by decide) rfl (sa_cons (se_var (pv 2)) (sa_cons (se_var (pv 4)) sa_nil))) (sa_cons (se_call h__law_mul hr (by decide) rfl (sa_cons (se_var (pv 5)) (sa_cons (se_var (pv 4)) sa_nil))) (sa_cons (se_call h__law_mul hr (by decide) rfl (sa_cons (se_var (pv 6)) (sa_cons (se_var (pv 4)) sa_nil))) (sa_cons (se_var (pv 7)) sa_nil)))))))))) (ss_one (ss_ret se_bl)) ss_nil) (ss_cons (ss_if (st_ne hr (se_call h__law_sign hr (by decide) rfl (sa_cons (se_var (pv 3)) sa_nil)) se_int) (ss_cons (ss_set (i := 12) nd rfl (Or.inl rfl) (se_call h_times_root hr (by decide) rfl (sa_cons (se_call h_over_root hr (by decide) rfl (sa_cons (se_var (pv 2)) (sa_cons (se_var (pv 3)) sa_nil))) (sa_cons (se_var (pv 3)) sa_nil)))) (ss_one (ss_if (st_ne hr (se_call h__law_compare hr (by decide) rfl (sa_cons (se_var (pv 12)) (sa_cons (se_var (pv 2)) sa_nil))) se_int) (ss_one (ss_ret se_bl)) ss_nil))) ss_nil) (ss_one (ss_ret (se_and (se_eq hr (se_call h_sign_of_root hr (by decide) rfl (sa_cons (se_var (pv 2)) sa_nil)) (se_call h__law_sign hr (by decide) rfl (sa_cons (se_var (pv 2)) sa_nil))) (se_and (se_call h__law_is hr (by decide) rfl (sa_cons (se_call h_root_of hr (by decide) rfl (sa_cons (se_var (pv 1)) sa_nil)) (sa_cons (se_tup (sa_cons se_int (sa_cons se_int sa_nil))) (sa_cons (se_tup (sa_cons se_int (sa_cons se_int sa_nil))) (sa_cons (se_var (pv 1)) sa_nil))))) (se_one (se_call h__law_is hr (by decide) rfl (sa_cons (se_call h_plain hr (by decide) rfl (sa_cons (se_var (pv 4)) sa_nil)) (sa_cons (se_var (pv 4)) (sa_cons (se_tup (sa_cons se_int (sa_cons se_int sa_nil))) (sa_cons (se_tup (sa_cons se_int (sa_cons se_int sa_nil))) sa_nil))))))))))))))))))
theorem ok_bound_of {f : Addr} {fd : FuncData} (F : Fun K "bound_of" "bound_of" s_bound_of f fd) (gm : mg "bound_of" = some (.ref f)) (b_abs : mg "abs" = none) (h_square : Df P w K mg base "square" 1 1 F_square) (h_times : Df P w K mg base "times" 2 3 F_times) : Df P w K mg base "bound_of" 1 4 F_bound_of := by
  have nd : (["one", "a", "b", "c", "parts"] : List Str).Nodup := by decide +kernel
  refine df_of (N := ["one", "a", "b", "c", "parts"]) (ps := ["one"]) F ⟨rfl, rfl, rfl, nd, rfl, by decide +kernel, by decide +kernel⟩ rfl rfl gm (F.binds (ps := ["one"]) fun _ _ _ _ _ _ us hl => match us, hl with | [_], _ => rfl) fun cdv A outer s0 H E aw hr => ?_
  exact (ss_cons (ss_asg (se_var (pv 0)) (sg_tup rfl (sgs_cons (sg_name (pg_name (i := 1) nd rfl (Or.inl rfl))) (sgs_cons (sg_name (pg_name (i := 2) nd rfl (Or.inl rfl))) (sgs_cons (sg_name (pg_name (i := 3) nd rfl (Or.inl rfl))) sgs_nil))))) (ss_cons (ss_set (i := 4) nd rfl (Or.inl rfl) (se_call h_times hr (by decide) rfl (sa_cons (se_call h_square hr (by decide) rfl (sa_cons (se_var (pv 2)) sa_nil)) (sa_cons (se_var (pv 3)) sa_nil)))) (ss_one (ss_ret (se_add (se_add (se_div (se_abs rfl b_abs (sa_cons (se_ix (se_var (pv 1)) se_int) sa_nil)) (se_ix (se_var (pv 1)) se_int)) (se_div (se_ix (se_var (pv 4)) se_int) (se_ix (se_var (pv 4)) se_int))) se_int)))))
theorem ok_sign_of_two {f : Addr} {fd : FuncData} (F : Fun K "sign_of_two" "sign_of_two" s_sign_of_two f fd) (gm : mg "sign_of_two" = some (.ref f)) (k_NOTHING : Kst K mg "NOTHING" c_NOTHING) (h_sign_of_root : Df P w K mg base "sign_of_root" 1 4 F_sign_of_root) (h_sign : Df P w K mg base "sign" 1 2 F_sign) (h_square : Df P w K mg base "square" 1 1 F_square) (h_times : Df P w K mg base "times" 2 3 F_times) (h_sum_of : Df P w K mg base "sum_of" 1 4 F_sum_of) (h_minus : Df P w K mg base "minus" 2 3 F_minus) : Df P w K mg base "sign_of_two" 5 5 F_sign_of_two := by
  have nd : (["a", "b", "c", "d", "e", "left", "right", "inner"] : List Str).Nodup := by decide +kernel
  refine df_of (N := ["a", "b", "c", "d", "e", "left", "right", "inner"]) (ps := ["a", "b", "c", "d", "e"]) F ⟨rfl, rfl, rfl, nd, rfl, by decide +kernel, by decide +kernel⟩ rfl rfl gm (F.binds (ps := ["a", "b", "c", "d", "e"]) fun _ _ _ _ _ _ us hl => match us, hl with | [_, _, _, _, _], _ => rfl) fun cdv A outer s0 H E aw hr => ?_
  exact (ss_cons (ss_if (st_w (sw_or (st_eq hr (se_var (pv 3)) (se_glob k_NOTHING rfl)) (sw_or1 (st_eq hr (se_var (pv 4)) (se_glob k_NOTHING rfl))))) (ss_one (ss_ret (se_call h_sign_of_root hr (by decide) rfl (sa_cons (se_tup (sa_cons (se_var (pv 0)) (sa_cons (se_var (pv 1)) (sa_cons (se_var (pv 2)) sa_nil)))) sa_nil)))) ss_nil) (ss_cons (ss_set (i := 5) nd rfl (Or.inl rfl) (se_call h_sign_of_root hr (by decide) rfl (sa_cons (se_tup (sa_cons (se_var (pv 0)) (sa_cons (se_var (pv 1)) (sa_cons (se_var (pv 2)) sa_nil)))) sa_nil))) (ss_cons (ss_set (i := 6) nd rfl (Or.inl rfl) (se_call h_sign hr (by decide) rfl (sa_cons (se_var (pv 3)) sa_nil))) (ss_cons (ss_if (st_w (sw_or (st_eq hr (se_var (pv 5)) se_int) (sw_or1 (st_eq hr (se_var (pv 5)) (se_var (pv 6)))))) (ss_one (ss_ret (se_var (pv 6)))) ss_nil) (ss_cons (ss_set (i := 7) nd rfl (Or.inl rfl) (se_tup (sa_cons (se_call h_minus hr (by decide) rfl (sa_cons (se_call h_sum_of hr (by decide) rfl (sa_cons (se_lst (sa_cons (se_call h_square hr (by decide) rfl (sa_cons (se_var (pv 0)) sa_nil)) (sa_cons (se_call h_times hr (by decide) rfl (sa_cons (se_call h_square hr (by decide) rfl (sa_cons (se_var (pv 1)) sa_nil)) (sa_cons (se_var (pv 2)) sa_nil))) sa_nil))) sa_nil)) (sa_cons (se_call h_times hr (by decide) rfl (sa_cons (se_call h_square hr (by decide) rfl (sa_cons (se_var (pv 3)) sa_nil)) (sa_cons (se_var (pv 4)) sa_nil))) sa_nil))) (sa_cons (se_call h_times hr (by decide) rfl (sa_cons (se_tup (sa_cons se_int (sa_cons se_int sa_nil))) (sa_cons (se_call h_times hr (by decide) rfl (sa_cons (se_var (pv 0)) (sa_cons (se_var (pv 1)) sa_nil))) sa_nil))) (sa_cons (se_var (pv 2)) sa_nil))))) (ss_one (ss_ret (se_mul (se_var (pv 5)) (se_call h_sign_of_root hr (by decide) rfl (sa_cons (se_var (pv 7)) sa_nil))))))))))
theorem ok_compare {f : Addr} {fd : FuncData} (F : Fun K "compare" "compare" s_compare f fd) (gm : mg "compare" = some (.ref f)) (h_minus : Df P w K mg base "minus" 2 3 F_minus) (h_turned : Df P w K mg base "turned" 1 1 F_turned) (h_sign_of_two : Df P w K mg base "sign_of_two" 5 5 F_sign_of_two) : Df P w K mg base "compare" 2 6 F_compare := by
  have nd : (["one", "other", "a", "b", "c", "d", "e", "f"] : List Str).Nodup := by decide +kernel
  refine df_of (N := ["one", "other", "a", "b", "c", "d", "e", "f"]) (ps := ["one", "other"]) F ⟨rfl, rfl, rfl, nd, rfl, by decide +kernel, by decide +kernel⟩ rfl rfl gm (F.binds (ps := ["one", "other"]) fun _ _ _ _ _ _ us hl => match us, hl with | [_, _], _ => rfl) fun cdv A outer s0 H E aw hr => ?_
  exact (ss_cons (ss_asg (se_var (pv 0)) (sg_tup rfl (sgs_cons (sg_name (pg_name (i := 2) nd rfl (Or.inl rfl))) (sgs_cons (sg_name (pg_name (i := 3) nd rfl (Or.inl rfl))) (sgs_cons (sg_name (pg_name (i := 4) nd rfl (Or.inl rfl))) sgs_nil))))) (ss_cons (ss_asg (se_var (pv 1)) (sg_tup rfl (sgs_cons (sg_name (pg_name (i := 5) nd rfl (Or.inl rfl))) (sgs_cons (sg_name (pg_name (i := 6) nd rfl (Or.inl rfl))) (sgs_cons (sg_name (pg_name (i := 7) nd rfl (Or.inl rfl))) sgs_nil))))) (ss_one (ss_ret (se_call h_sign_of_two hr (by decide) rfl (sa_cons (se_call h_minus hr (by decide) rfl (sa_cons (se_var (pv 2)) (sa_cons (se_var (pv 5)) sa_nil))) (sa_cons (se_var (pv 3)) (sa_cons (se_var (pv 4)) (sa_cons (se_call h_turned hr (by decide) rfl (sa_cons (se_var (pv 6)) sa_nil)) (sa_cons (se_var (pv 7)) sa_nil))))))))))
theorem ok_floor_of {f : Addr} {fd : FuncData} (F : Fun K "floor_of" "floor_of" s_floor_of f fd) (gm : mg "floor_of" = some (.ref f)) (h_bound_of : Df P w K mg base "bound_of" 1 4 F_bound_of) (h_whole : Df P w K mg base "whole" 1 1 F_whole) (h_plain : Df P w K mg base "plain" 1 1 F_plain) (h_compare : Df P w K mg base "compare" 2 6 F_compare) : Df P w K mg base "floor_of" 1 7 F_floor_of := by
  have nd : (["one", "low", "high", "middle"] : List Str).Nodup := by decide +kernel
  refine df_of (N := ["one", "low", "high", "middle"]) (ps := ["one"]) F ⟨rfl, rfl, rfl, nd, rfl, by decide +kernel, by decide +kernel⟩ rfl rfl gm (F.binds (ps := ["one"]) fun _ _ _ _ _ _ us hl => match us, hl with | [_], _ => rfl) fun cdv A outer s0 H E aw hr => ?_
  exact (ss_cons (ss_par (ps_par (i := 1) (j := 2) rfl nd rfl rfl (by decide) rfl rfl (sa_cons (se_neg (se_call h_bound_of hr (by decide) rfl (sa_cons (se_var (pv 0)) sa_nil))) (sa_cons (se_call h_bound_of hr (by decide) rfl (sa_cons (se_var (pv 0)) sa_nil)) sa_nil)) (by rfl))) (ss_cons (ss_while PassesOwn.never (st_gt (se_sub (se_var (pv 2)) (se_var (pv 1))) se_int) (ss_cons (ss_set (i := 3) nd rfl (Or.inl rfl) (se_div (se_add (se_var (pv 1)) (se_var (pv 2))) se_int)) (ss_one (ss_if (st_le (se_call h_compare hr (by decide) rfl (sa_cons (se_call h_plain hr (by decide) rfl (sa_cons (se_call h_whole hr (by decide) rfl (sa_cons (se_var (pv 3)) sa_nil)) sa_nil)) (sa_cons (se_var (pv 0)) sa_nil))) se_int) (ss_one (ss_set (i := 1) nd rfl (Or.inl rfl) (se_var (pv 3)))) (ss_one (ss_set (i := 2) nd rfl (Or.inl rfl) (se_var (pv 3)))))))) (ss_one (ss_ret (se_var (pv 1))))))
theorem ok_rounded {f : Addr} {fd : FuncData} (F : Fun K "rounded" "rounded" s_rounded f fd) (gm : mg "rounded" = some (.ref f)) (b_range : mg "range" = none) (h_whole : Df P w K mg base "whole" 1 1 F_whole) (h_by_fraction : Df P w K mg base "by_fraction" 2 5 F_by_fraction) (h_fraction : Df P w K mg base "fraction" 2 2 F_fraction) (h_plain : Df P w K mg base "plain" 1 1 F_plain) (h_minus_root : Df P w K mg base "minus_root" 2 6 F_minus_root) (h_floor_of : Df P w K mg base "floor_of" 1 7 F_floor_of) : Df P w K mg base "rounded" 2 8 F_rounded := by
  have nd : (["one", "places", "scale", "_"] : List Str).Nodup := by decide +kernel
  refine df_of (N := ["one", "places", "scale", "_"]) (ps := ["one", "places"]) F ⟨rfl, rfl, rfl, nd, rfl, by decide +kernel, by decide +kernel⟩ rfl rfl gm (F.binds (ps := ["one", "places"]) fun _ _ _ _ _ _ us hl => match us, hl with | [_, _], _ => rfl) fun cdv A outer s0 H E aw hr => ?_
  exact (ss_cons (ss_set (i := 2) nd rfl (Or.inl rfl) se_int) (ss_cons (ss_for PassesOwn.never rfl (si_rng1 rfl b_range (sa_cons (se_var (pv 1)) sa_nil)) (sg_name (pg_name (i := 3) nd rfl (Or.inl rfl))) (ss_one (ss_aug (i := 2) iop_mulW ok_mul nd rfl (Or.inl rfl) se_int))) (ss_one (ss_ret (se_call h_floor_of hr (by decide) rfl (sa_cons (se_call h_minus_root hr (by decide) rfl (sa_cons (se_call h_by_fraction hr (by decide) rfl (sa_cons (se_var (pv 0)) (sa_cons (se_call h_whole hr (by decide) rfl (sa_cons (se_var (pv 2)) sa_nil)) sa_nil))) (sa_cons (se_call h_plain hr (by decide) rfl (sa_cons (se_call h_fraction hr (by decide) rfl (sa_cons (se_neg se_int) (sa_cons se_int sa_nil))) sa_nil)) sa_nil))) sa_nil))))))
theorem ok_near_by {f : Addr} {fd : FuncData} (F : Fun K "near_by" "near_by" s_near_by f fd) (gm : mg "near_by" = some (.ref f)) (h_whole : Df P w K mg base "whole" 1 1 F_whole) (h_by_fraction : Df P w K mg base "by_fraction" 2 5 F_by_fraction) (h_floor_of : Df P w K mg base "floor_of" 1 7 F_floor_of) (h_fraction : Df P w K mg base "fraction" 2 2 F_fraction) : Df P w K mg base "near_by" 2 8 F_near_by := by
  have nd : (["one", "lower"] : List Str).Nodup := by decide +kernel
  refine df_of (N := ["one", "lower"]) (ps := ["one", "lower"]) F ⟨rfl, rfl, rfl, nd, rfl, by decide +kernel, by decide +kernel⟩ rfl rfl gm (F.binds (ps := ["one", "lower"]) fun _ _ _ _ _ _ us hl => match us, hl with | [_, _], _ => rfl) fun cdv A outer s0 H E aw hr => ?_
  exact (ss_one (ss_ret (se_call h_fraction hr (by decide) rfl (sa_cons (se_call h_floor_of hr (by decide) rfl (sa_cons (se_call h_by_fraction hr (by decide) rfl (sa_cons (se_var (pv 0)) (sa_cons (se_call h_whole hr (by decide) rfl (sa_cons (se_var (pv 1)) sa_nil)) sa_nil))) sa_nil)) (sa_cons (se_var (pv 1)) sa_nil)))))
theorem ok_digits_of {f : Addr} {fd : FuncData} (F : Fun K "digits_of" "digits_of" s_digits_of f fd) (gm : mg "digits_of" = some (.ref f)) (b_str : mg "str" = none) (b_abs : mg "abs" = none) (b_len : mg "len" = none) (h_rounded : Df P w K mg base "rounded" 2 8 F_rounded) : Df P w K mg base "digits_of" 2 9 F_digits_of := by
  have nd : (["one", "places", "number", "text", "front"] : List Str).Nodup := by decide +kernel
  refine df_of (N := ["one", "places", "number", "text", "front"]) (ps := ["one", "places"]) F ⟨rfl, rfl, rfl, nd, rfl, by decide +kernel, by decide +kernel⟩ rfl rfl gm (F.binds (ps := ["one", "places"]) fun _ _ _ _ _ _ us hl => match us, hl with | [_, _], _ => rfl) fun cdv A outer s0 H E aw hr => ?_
  exact (ss_cons (ss_set (i := 2) nd rfl (Or.inl rfl) (se_call h_rounded hr (by decide) rfl (sa_cons (se_var (pv 0)) (sa_cons (se_var (pv 1)) sa_nil)))) (ss_cons (ss_set (i := 3) nd rfl (Or.inl rfl) (se_strc rfl b_str (sa_cons (se_abs rfl b_abs (sa_cons (se_var (pv 2)) sa_nil)) sa_nil))) (ss_cons (ss_set (i := 3) nd rfl (Or.inl rfl) (se_catS (se_mulS se_str (se_sub (se_add (se_var (pv 1)) se_int) (se_len rfl b_len (sa_cons (se_var (pv 3)) sa_nil)))) (se_var (pv 3)))) (ss_cons (ss_set (i := 4) nd rfl (Or.inl rfl) (se_if (st_lt (se_var (pv 2)) se_int) se_str se_str)) (ss_one (ss_ret (se_catS (se_catS (se_var (pv 4)) (se_sl (se_var (pv 3)) so_none (so_some (se_sub (se_len rfl b_len (sa_cons (se_var (pv 3)) sa_nil)) (se_var (pv 1)))))) (se_if (st_gt (se_var (pv 1)) se_int) (se_catS se_str (se_sl (se_var (pv 3)) (so_some (se_sub (se_len rfl b_len (sa_cons (se_var (pv 3)) sa_nil)) (se_var (pv 1)))) so_none)) se_str))))))))
theorem ok_between {f : Addr} {fd : FuncData} (F : Fun K "between" "between" s_between f fd) (gm : mg "between" = some (.ref f)) (h_whole : Df P w K mg base "whole" 1 1 F_whole) (h_by_fraction : Df P w K mg base "by_fraction" 2 5 F_by_fraction) (h_floor_of : Df P w K mg base "floor_of" 1 7 F_floor_of) (h_fraction : Df P w K mg base "fraction" 2 2 F_fraction) (h_plain : Df P w K mg base "plain" 1 1 F_plain) (h_compare : Df P w K mg base "compare" 2 6 F_compare) : Df P w K mg base "between" 2 8 F_between := by
  have nd : (["one", "other", "lower", "upper", "found"] : List Str).Nodup := by decide +kernel
  refine df_of (N := ["one", "other", "lower", "upper", "found"]) (ps := ["one", "other"]) F ⟨rfl, rfl, rfl, nd, rfl, by decide +kernel, by decide +kernel⟩ rfl rfl gm (F.binds (ps := ["one", "other"]) fun _ _ _ _ _ _ us hl => match us, hl with | [_, _], _ => rfl) fun cdv A outer s0 H E aw hr => ?_
  exact (ss_cons (ss_set (i := 2) nd rfl (Or.inl rfl) se_int) (ss_one (ss_while PassesOwn.never (st_val se_bl) (ss_cons (ss_set (i := 3) nd rfl (Or.inl rfl) (se_add (se_call h_floor_of hr (by decide) rfl (sa_cons (se_call h_by_fraction hr (by decide) rfl (sa_cons (se_var (pv 0)) (sa_cons (se_call h_whole hr (by decide) rfl (sa_cons (se_var (pv 2)) sa_nil)) sa_nil))) sa_nil)) se_int)) (ss_cons (ss_set (i := 4) nd rfl (Or.inl rfl) (se_call h_fraction hr (by decide) rfl (sa_cons (se_var (pv 3)) (sa_cons (se_var (pv 2)) sa_nil)))) (ss_cons (ss_if (st_lt (se_call h_compare hr (by decide) rfl (sa_cons (se_call h_plain hr (by decide) rfl (sa_cons (se_var (pv 4)) sa_nil)) (sa_cons (se_var (pv 1)) sa_nil))) se_int) (ss_one (ss_ret (se_var (pv 4)))) ss_nil) (ss_one (ss_aug (i := 2) iop_mulW ok_mul nd rfl (Or.inl rfl) se_int))))))))
theorem ok__law_parts {f : Addr} {fd : FuncData} (F : Fun K "_law_parts" "_law_parts" s__law_parts f fd) (gm : mg "_law_parts" = some (.ref f)) (b_isinstance : mg "isinstance" = none) (b_int : mg "int" = none) (b_range : mg "range" = none) (b_str : mg "str" = none) (b_abs : mg "abs" = none) (b_len : mg "len" = none) (h__law_pick : Df P w K mg base "_law_pick" 2 2 F__law_pick) (h__law_number : Df P w K mg base "_law_number" 2 5 F__law_number) (h_floor_of : Df P w K mg base "floor_of" 1 7 F_floor_of) (h__law_compare : Df P w K mg base "_law_compare" 2 4 F__law_compare) (h__law_next : Df P w K mg base "_law_next" 2 1 F__law_next) (h_near_by : Df P w K mg base "near_by" 2 8 F_near_by) (h_by_fraction : Df P w K mg base "by_fraction" 2 5 F_by_fraction) (h__law_frac : Df P w K mg base "_law_frac" 2 1 F__law_frac) (h__law_add : Df P w K mg base "_law_add" 2 2 F__law_add) (h_rounded : Df P w K mg base "rounded" 2 8 F_rounded) (h_digits_of : Df P w K mg base "digits_of" 2 9 F_digits_of) (h_between : Df P w K mg base "between" 2 8 F_between) : Df P w K mg base "_law_parts" 1 10 F__law_parts := by
  have nd : (["w", "one", "other", "n", "lower", "places", "near", "unit", "k", "m", "low", "high", "text", "side", "told", "time", "own"] : List Str).Nodup := by decide +kernel
  refine df_of (N := ["w", "one", "other", "n", "lower", "places", "near", "unit", "k", "m", "low", "high", "text", "side", "told", "time", "own"]) (ps := ["w"]) F ⟨rfl, rfl, rfl, nd, rfl, by decide +kernel, by decide +kernel⟩ rfl rfl gm (F.binds (ps := ["w"]) fun _ _ _ _ _ _ us hl => match us, hl with | [_], _ => rfl) fun cdv A outer s0 H E aw hr => ?_
  exact (ss_cons (ss_par (ps_par (i := 1) (j := 2) rfl nd rfl rfl (by decide) rfl rfl (sa_cons (se_call h__law_number hr (by decide) rfl (sa_cons (se_var (pv 0)) (sa_cons (se_call h__law_pick hr (by decide) rfl (sa_cons (se_var (pv 0)) (sa_cons (se_lst (sa_cons (se_tup (sa_cons se_int (sa_cons se_int sa_nil))) (sa_cons (se_tup (sa_cons se_int (sa_cons se_int sa_nil))) (sa_cons (se_tup (sa_cons se_int (sa_cons se_int sa_nil))) sa_nil)))) sa_nil))) sa_nil))) (sa_cons (se_call h__law_number hr (by decide) rfl (sa_cons (se_var (pv 0)) (sa_cons (se_call h__law_pick hr (by decide) rfl (sa_cons (se_var (pv 0)) (sa_cons (se_lst (sa_cons (se_tup (sa_cons se_int (sa_cons se_int sa_nil))) (sa_cons (se_tup (sa_cons se_int (sa_cons se_int sa_nil))) (sa_cons (se_tup (sa_cons se_int (sa_cons se_int sa_nil))) sa_nil)))) sa_nil))) sa_nil))) sa_nil)) (by rfl))) (ss_cons (ss_set (i := 3) nd rfl (Or.inl rfl) (se_call h_floor_of hr (by decide) rfl (sa_cons (se_var (pv 1)) sa_nil))) (ss_cons (ss_if (st_w (sw_or (st_not (st_val (se_isi boot_t_int (by decide) rfl b_int rfl b_isinstance (se_var (pv 3))))) (sw_or (st_gt (se_call h__law_compare hr (by decide) rfl (sa_cons (se_tup (sa_cons (se_tup (sa_cons (se_var (pv 3)) (sa_cons se_int sa_nil))) (sa_cons (se_tup (sa_cons se_int (sa_cons se_int sa_nil))) (sa_cons (se_tup (sa_cons se_int (sa_cons se_int sa_nil))) sa_nil)))) (sa_cons (se_var (pv 1)) sa_nil))) se_int) (sw_or1 (st_le (se_call h__law_compare hr (by decide) rfl (sa_cons (se_tup (sa_cons (se_tup (sa_cons (se_add (se_var (pv 3)) se_int) (sa_cons se_int sa_nil))) (sa_cons (se_tup (sa_cons se_int (sa_cons se_int sa_nil))) (sa_cons (se_tup (sa_cons se_int (sa_cons se_int sa_nil))) sa_nil)))) (sa_cons (se_var (pv 1)) sa_nil))) se_int))))) (ss_one (ss_ret se_bl)) ss_nil) (ss_cons (ss_par (ps_par (i := 4) (j := 5) rfl nd rfl rfl (by decide) rfl rfl (sa_cons (se_add se_int (se_call h__law_next hr (by decide) rfl (sa_cons (se_var (pv 0)) (sa_cons se_int sa_nil)))) (sa_cons (se_call h__law_next hr (by decide) rfl (sa_cons (se_var (pv 0)) (sa_cons se_int sa_nil))) sa_nil)) (by rfl))) (ss_cons (ss_par (ps_par (i := 6) (j := 7) rfl nd rfl rfl (by decide) rfl rfl (sa_cons (se_call h_near_by hr (by decide) rfl (sa_cons (se_var (pv 1)) (sa_cons (se_var (pv 4)) sa_nil))) (sa_cons se_int sa_nil)) (by rfl))) (ss_cons (ss_for PassesOwn.never rfl (si_rng1 rfl b_range (sa_cons (se_var (pv 5)) sa_nil)) (sg_name (pg_name (i := 8) nd rfl (Or.inl rfl))) (ss_one (ss_set (i := 7) nd rfl (Or.inl rfl) (se_mul (se_var (pv 7)) se_int)))) (ss_cons (ss_if (st_w (sw_or (st_ne hr (se_var (pv 6)) (se_call h__law_frac hr (by decide) rfl (sa_cons (se_call h_floor_of hr (by decide) rfl (sa_cons (se_call h_by_fraction hr (by decide) rfl (sa_cons (se_var (pv 1)) (sa_cons (se_tup (sa_cons (se_var (pv 4)) (sa_cons se_int sa_nil))) sa_nil))) sa_nil)) (sa_cons (se_var (pv 4)) sa_nil)))) (sw_or (st_gt (se_call h__law_compare hr (by decide) rfl (sa_cons (se_tup (sa_cons (se_var (pv 6)) (sa_cons (se_tup (sa_cons se_int (sa_cons se_int sa_nil))) (sa_cons (se_tup (sa_cons se_int (sa_cons se_int sa_nil))) sa_nil)))) (sa_cons (se_var (pv 1)) sa_nil))) se_int) (sw_or1 (st_le (se_call h__law_compare hr (by decide) rfl (sa_cons (se_tup (sa_cons (se_call h__law_add hr (by decide) rfl (sa_cons (se_var (pv 6)) (sa_cons (se_tup (sa_cons se_int (sa_cons (se_var (pv 4)) sa_nil))) sa_nil))) (sa_cons (se_tup (sa_cons se_int (sa_cons se_int sa_nil))) (sa_cons (se_tup (sa_cons se_int (sa_cons se_int sa_nil))) sa_nil)))) (sa_cons (se_var (pv 1)) sa_nil))) se_int))))) (ss_one (ss_ret se_bl)) ss_nil) (ss_cons (ss_set (i := 9) nd rfl (Or.inl rfl) (se_call h_rounded hr (by decide) rfl (sa_cons (se_var (pv 1)) (sa_cons (se_var (pv 5)) sa_nil)))) (ss_cons (ss_par (ps_par (i := 10) (j := 11) rfl nd rfl rfl (by decide) rfl rfl (sa_cons (se_call h__law_frac hr (by decide) rfl (sa_cons (se_sub (se_mul se_int (se_var (pv 9))) se_int) (sa_cons (se_mul se_int (se_var (pv 7))) sa_nil))) (sa_cons (se_call h__law_frac hr (by decide) rfl (sa_cons (se_add (se_mul se_int (se_var (pv 9))) se_int) (sa_cons (se_mul se_int (se_var (pv 7))) sa_nil))) sa_nil)) (by rfl))) (ss_cons (ss_if (st_w (sw_or (st_gt (se_call h__law_compare hr (by decide) rfl (sa_cons (se_tup (sa_cons (se_var (pv 10)) (sa_cons (se_tup (sa_cons se_int (sa_cons se_int sa_nil))) (sa_cons (se_tup (sa_cons se_int (sa_cons se_int sa_nil))) sa_nil)))) (sa_cons (se_var (pv 1)) sa_nil))) se_int) (sw_or1 (st_le (se_call h__law_compare hr (by decide) rfl (sa_cons (se_tup (sa_cons (se_var (pv 11)) (sa_cons (se_tup (sa_cons se_int (sa_cons se_int sa_nil))) (sa_cons (se_tup (sa_cons se_int (sa_cons se_int sa_nil))) sa_nil)))) (sa_cons (se_var (pv 1)) sa_nil))) se_int)))) (ss_one (ss_ret se_bl)) ss_nil) (ss_cons (ss_set (i := 12) nd rfl (Or.inl rfl) (se_strc rfl b_str (sa_cons (se_abs rfl b_abs (sa_cons (se_var (pv 9)) sa_nil)) sa_nil))) (ss_cons (ss_set (i := 12) nd rfl (Or.inl rfl) (se_catS (se_mulS se_str (se_sub (se_add (se_var (pv 5)) se_int) (se_len rfl b_len (sa_cons (se_var (pv 12)) sa_nil)))) (se_var (pv 12)))) (ss_cons (ss_set (i := 12) nd rfl (Or.inl rfl) (se_catS (se_sl (se_var (pv 12)) so_none (so_some (se_sub (se_len rfl b_len (sa_cons (se_var (pv 12)) sa_nil)) (se_var (pv 5))))) (se_if (st_gt (se_var (pv 5)) se_int) (se_catS se_str (se_sl (se_var (pv 12)) (so_some (se_sub (se_len rfl b_len (sa_cons (se_var (pv 12)) sa_nil)) (se_var (pv 5)))) so_none)) se_str))) (ss_cons (ss_if (st_ne hr (se_call h_digits_of hr (by decide) rfl (sa_cons (se_var (pv 1)) (sa_cons (se_var (pv 5)) sa_nil))) (se_catS (se_if (st_lt (se_var (pv 9)) se_int) se_str se_str) (se_var (pv 12)))) (ss_one (ss_ret se_bl)) ss_nil) (ss_cons (ss_set (i := 13) nd rfl (Or.inl rfl) (se_call h__law_compare hr (by decide) rfl (sa_cons (se_var (pv 1)) (sa_cons (se_var (pv 2)) sa_nil)))) (ss_cons (ss_if (st_eq hr (se_var (pv 13)) se_int) (ss_one (ss_ret se_bl)) ss_nil) (ss_cons (ss_asg (se_if (st_lt (se_var (pv 13)) se_int) (se_tup (sa_cons (se_var (pv 1)) (sa_cons (se_var (pv 2)) sa_nil))) (se_tup (sa_cons (se_var (pv 2)) (sa_cons (se_var (pv 1)) sa_nil)))) (sg_tup rfl (sgs_cons (sg_name (pg_name (i := 10) nd rfl (Or.inl rfl))) (sgs_cons (sg_name (pg_name (i := 11) nd rfl (Or.inl rfl))) sgs_nil)))) (ss_cons (ss_par (ps_par (i := 14) (j := 4) rfl nd rfl rfl (by decide) rfl rfl (sa_cons (se_call h_between hr (by decide) rfl (sa_cons (se_var (pv 10)) (sa_cons (se_var (pv 11)) sa_nil))) (sa_cons se_int sa_nil)) (by rfl))) (ss_cons (ss_for PassesOwn.never rfl (si_rng1 rfl b_range (sa_cons se_int sa_nil)) (sg_name (pg_name (i := 15) nd rfl (Or.inl rfl))) (ss_cons (ss_set (i := 16) nd rfl (Or.inl rfl) (se_call h__law_frac hr (by decide) rfl (sa_cons (se_add (se_call h_floor_of hr (by decide) rfl (sa_cons (se_call h_by_fraction hr (by decide) rfl (sa_cons (se_var (pv 10)) (sa_cons (se_tup (sa_cons (se_var (pv 4)) (sa_cons se_int sa_nil))) sa_nil))) sa_nil)) se_int) (sa_cons (se_var (pv 4)) sa_nil)))) (ss_cons (ss_if (st_lt (se_call h__law_compare hr (by decide) rfl (sa_cons (se_tup (sa_cons (se_var (pv 16)) (sa_cons (se_tup (sa_cons se_int (sa_cons se_int sa_nil))) (sa_cons (se_tup (sa_cons se_int (sa_cons se_int sa_nil))) sa_nil)))) (sa_cons (se_var (pv 11)) sa_nil))) se_int) (ss_one (ss_ret (se_eq hr (se_var (pv 14)) (se_var (pv 16))))) ss_nil) (ss_one (ss_set (i := 4) nd rfl (Or.inl rfl) (se_mul (se_var (pv 4)) se_int)))))) (ss_one (ss_ret se_bl)))))))))))))))))))))
theorem ok_sorted_roots {f : Addr} {fd : FuncData} (F : Fun K "sorted_roots" "sorted_roots" s_sorted_roots f fd) (gm : mg "sorted_roots" = some (.ref f)) (b_len : mg "len" = none) (b_tuple : mg "tuple" = none) (h_compare : Df P w K mg base "compare" 2 6 F_compare) : Df P w K mg base "sorted_roots" 1 7 F_sorted_roots := by
  have nd : (["rows", "found", "one", "place", "own"] : List Str).Nodup := by decide +kernel
  refine df_of (N := ["rows", "found", "one", "place", "own"]) (ps := ["rows"]) F ⟨rfl, rfl, rfl, nd, rfl, by decide +kernel, by decide +kernel⟩ rfl rfl gm (F.binds (ps := ["rows"]) fun _ _ _ _ _ _ us hl => match us, hl with | [_], _ => rfl) fun cdv A outer s0 H E aw hr => ?_
  exact (ss_cons (ss_own (i := 1) (fun _ he => ps_set (i := 1) nd rfl (Or.inl rfl) he) sa_nil) (ss_cons (ss_for PassesOwn.never rfl (si_list (se_var (pv 0))) (sg_name (pg_name (i := 2) nd rfl (Or.inr rfl))) (ss_cons (ss_set (i := 3) nd rfl (Or.inl rfl) (se_len rfl b_len (sa_cons (se_lc (own := [("own", 4)]) rfl nd (blkOk_by (own := [("own", 4)]) rfl) (si_own (pv 1)) (fun _ _ _ _ _ => (sg_name (pg_name (i := 4) nd rfl (Or.inl rfl)))) (fun _ _ _ _ _ => (sts_one (st_le (se_call h_compare hr (by decide) rfl (sa_cons (se_var (pv 4)) (sa_cons (se_var (pv 2)) sa_nil))) se_int))) (fun _ _ _ _ _ => (se_var (pv 4)))) sa_nil))) (ss_one (ss_ins (ps_expr (pe_bm PySem.F.plainAttrs_list PySem.F.slot_list_insert PySem.F.type_list_insert mt_insert (pv 1) (sa_cons (se_var (pv 3)) (sa_cons (se_var (pv 2)) sa_nil)))))))) (ss_freeze (i := 1) (ss_one (ss_ret (se_tuplec rfl b_tuple (sa_cons (se_var (pv 1)) sa_nil)))))))
theorem ok_rank_of {f : Addr} {fd : FuncData} (F : Fun K "rank_of" "rank_of" s_rank_of f fd) (gm : mg "rank_of" = some (.ref f)) (h_compare : Df P w K mg base "compare" 2 6 F_compare) : Df P w K mg base "rank_of" 2 7 F_rank_of := by
  have nd : (["rows", "one", "sides", "own"] : List Str).Nodup := by decide +kernel
  refine df_of (N := ["rows", "one", "sides", "own"]) (ps := ["rows", "one"]) F ⟨rfl, rfl, rfl, nd, rfl, by decide +kernel, by decide +kernel⟩ rfl rfl gm (F.binds (ps := ["rows", "one"]) fun _ _ _ _ _ _ us hl => match us, hl with | [_, _], _ => rfl) fun cdv A outer s0 H E aw hr => ?_
  exact (ss_cons (ss_lc (own := [("own", 3)]) (i := 2) rfl nd (blkOk_by (own := [("own", 3)]) rfl) rfl rfl (sw_true rfl rfl rfl (by decide +kernel)) (si_c (si_list (se_var (pv 0)))) (fun _ _ _ _ _ => (sg_name (pg_name (i := 3) nd rfl (Or.inl rfl)))) (fun _ _ _ _ _ => sts_nil) (fun _ _ _ _ _ => (se_call h_compare hr (by decide) rfl (sa_cons (se_var (pv 3)) (sa_cons (se_var (pv 1)) sa_nil))))) (ss_one (ss_ret (se_tup (sa_cons (se_count (se_var (pv 2)) (sa_cons (se_neg se_int) sa_nil)) (sa_cons (se_count (se_var (pv 2)) (sa_cons se_int sa_nil)) sa_nil))))))
theorem ok_least_of {f : Addr} {fd : FuncData} (F : Fun K "least_of" "least_of" s_least_of f fd) (gm : mg "least_of" = some (.ref f)) (h_compare : Df P w K mg base "compare" 2 6 F_compare) : Df P w K mg base "least_of" 1 7 F_least_of := by
  have nd : (["rows", "best", "one"] : List Str).Nodup := by decide +kernel
  refine df_of (N := ["rows", "best", "one"]) (ps := ["rows"]) F ⟨rfl, rfl, rfl, nd, rfl, by decide +kernel, by decide +kernel⟩ rfl rfl gm (F.binds (ps := ["rows"]) fun _ _ _ _ _ _ us hl => match us, hl with | [_], _ => rfl) fun cdv A outer s0 H E aw hr => ?_
  exact (ss_cons (ss_set (i := 1) nd rfl (Or.inl rfl) (se_ix (se_var (pv 0)) se_int)) (ss_cons (ss_for PassesOwn.never rfl (si_list (se_sl (se_var (pv 0)) (so_some se_int) so_none)) (sg_name (pg_name (i := 2) nd rfl (Or.inl rfl))) (ss_one (ss_set (i := 1) nd rfl (Or.inl rfl) (se_if (st_lt (se_call h_compare hr (by decide) rfl (sa_cons (se_var (pv 2)) (sa_cons (se_var (pv 1)) sa_nil))) se_int) (se_var (pv 2)) (se_var (pv 1)))))) (ss_one (ss_ret (se_var (pv 1))))))
theorem ok_greatest_of {f : Addr} {fd : FuncData} (F : Fun K "greatest_of" "greatest_of" s_greatest_of f fd) (gm : mg "greatest_of" = some (.ref f)) (h_compare : Df P w K mg base "compare" 2 6 F_compare) : Df P w K mg base "greatest_of" 1 7 F_greatest_of := by
  have nd : (["rows", "best", "one"] : List Str).Nodup := by decide +kernel
  refine df_of (N := ["rows", "best", "one"]) (ps := ["rows"]) F ⟨rfl, rfl, rfl, nd, rfl, by decide +kernel, by decide +kernel⟩ rfl rfl gm (F.binds (ps := ["rows"]) fun _ _ _ _ _ _ us hl => match us, hl with | [_], _ => rfl) fun cdv A outer s0 H E aw hr => ?_
  exact (ss_cons (ss_set (i := 1) nd rfl (Or.inl rfl) (se_ix (se_var (pv 0)) se_int)) (ss_cons (ss_for PassesOwn.never rfl (si_list (se_sl (se_var (pv 0)) (so_some se_int) so_none)) (sg_name (pg_name (i := 2) nd rfl (Or.inl rfl))) (ss_one (ss_set (i := 1) nd rfl (Or.inl rfl) (se_if (st_gt (se_call h_compare hr (by decide) rfl (sa_cons (se_var (pv 2)) (sa_cons (se_var (pv 1)) sa_nil))) se_int) (se_var (pv 2)) (se_var (pv 1)))))) (ss_one (ss_ret (se_var (pv 1))))))
theorem ok__law_rows {f : Addr} {fd : FuncData} (F : Fun K "_law_rows" "_law_rows" s__law_rows f fd) (gm : mg "_law_rows" = some (.ref f)) (b_range : mg "range" = none) (b_list : mg "list" = none) (b_isinstance : mg "isinstance" = none) (b_tuple : mg "tuple" = none) (b_sorted : mg "sorted" = none) (b_len : mg "len" = none) (h__law_next : Df P w K mg base "_law_next" 2 1 F__law_next) (h__law_pick : Df P w K mg base "_law_pick" 2 2 F__law_pick) (h__law_number : Df P w K mg base "_law_number" 2 5 F__law_number) (h_sorted_roots : Df P w K mg base "sorted_roots" 1 7 F_sorted_roots) (h__law_compare : Df P w K mg base "_law_compare" 2 4 F__law_compare) (h_rank_of : Df P w K mg base "rank_of" 2 7 F_rank_of) (h_compare : Df P w K mg base "compare" 2 6 F_compare) (h_least_of : Df P w K mg base "least_of" 1 7 F_least_of) (h_greatest_of : Df P w K mg base "greatest_of" 1 7 F_greatest_of) : Df P w K mg base "_law_rows" 1 8 F__law_rows := by
  have nd : (["w", "rows", "order", "one", "sides", "least", "most", "other", "k", "own", "side"] : List Str).Nodup := by decide +kernel
  refine df_of (N := ["w", "rows", "order", "one", "sides", "least", "most", "other", "k", "own", "side"]) (ps := ["w"]) F ⟨rfl, rfl, rfl, nd, rfl, by decide +kernel, by decide +kernel⟩ rfl rfl gm (F.binds (ps := ["w"]) fun _ _ _ _ _ _ us hl => match us, hl with | [_], _ => rfl) fun cdv A outer s0 H E aw hr => ?_
  exact (ss_cons (ss_lc (own := [("k", 8)]) (i := 1) rfl nd (blkOk_by (own := [("k", 8)]) rfl) rfl rfl (sw_true rfl rfl rfl (by decide +kernel)) (si_c (si_rng1 rfl b_range (sa_cons (se_add se_int (se_call h__law_next hr (by decide) rfl (sa_cons (se_var (pv 0)) (sa_cons se_int sa_nil)))) sa_nil))) (fun _ _ _ _ _ => (sg_name (pg_name (i := 8) nd rfl (Or.inl rfl)))) (fun _ _ _ _ _ => sts_nil) (fun _ _ _ _ _ => (se_call h__law_number hr (by decide) rfl (sa_cons (se_var (pv 0)) (sa_cons (se_call h__law_pick hr (by decide) rfl (sa_cons (se_var (pv 0)) (sa_cons (se_lst (sa_cons (se_tup (sa_cons se_int (sa_cons se_int sa_nil))) (sa_cons (se_tup (sa_cons se_int (sa_cons se_int sa_nil))) (sa_cons (se_tup (sa_cons se_int (sa_cons se_int sa_nil))) (sa_cons (se_tup (sa_cons se_int (sa_cons se_int sa_nil))) sa_nil))))) sa_nil))) sa_nil))))) (ss_cons (ss_set (i := 1) nd rfl (Or.inl rfl) (se_if (st_eq hr (se_call h__law_next hr (by decide) rfl (sa_cons (se_var (pv 0)) (sa_cons se_int sa_nil))) se_int) (se_catL (se_var (pv 1)) (se_lst (sa_cons (se_ix (se_var (pv 1)) se_int) sa_nil))) (se_var (pv 1)))) (ss_cons (ss_set (i := 2) nd rfl (Or.inr rfl) (se_call h_sorted_roots hr (by decide) rfl (sa_cons (se_listc rfl b_list (sa_cons (se_var (pv 1)) sa_nil)) sa_nil))) (ss_cons (ss_if (st_w (sw_or (st_not (st_val (se_isi boot_t_tuple (by decide) rfl b_tuple rfl b_isinstance (se_var (pv 2))))) (sw_or (st_ne hr (se_sortedc hr rfl b_sorted (sa_cons (se_var (pv 2)) sa_nil)) (se_sortedc hr rfl b_sorted (sa_cons (se_var (pv 1)) sa_nil))) (sw_or1 (st_ne hr (se_lc (own := [("k", 8)]) rfl nd (blkOk_by (own := [("k", 8)]) rfl) (si_c (si_rng1 rfl b_range (sa_cons (se_sub (se_len rfl b_len (sa_cons (se_var (pv 2)) sa_nil)) se_int) sa_nil))) (fun _ _ _ _ _ => (sg_name (pg_name (i := 8) nd rfl (Or.inl rfl)))) (fun _ _ _ _ _ => (sts_one (st_gt (se_call h__law_compare hr (by decide) rfl (sa_cons (se_ix (se_var (pv 2)) (se_var (pv 8))) (sa_cons (se_ix (se_var (pv 2)) (se_add (se_var (pv 8)) se_int)) sa_nil))) se_int))) (fun _ _ _ _ _ => (se_var (pv 8)))) (se_lst sa_nil)))))) (ss_one (ss_ret se_bl)) ss_nil) (ss_cons (ss_set (i := 3) nd rfl (Or.inr rfl) (se_call h__law_pick hr (by decide) rfl (sa_cons (se_var (pv 0)) (sa_cons (se_var (pv 1)) sa_nil)))) (ss_cons (ss_lc (own := [("own", 9)]) (i := 4) rfl nd (blkOk_by (own := [("own", 9)]) rfl) rfl rfl (sw_true rfl rfl rfl (by decide +kernel)) (si_c (si_list (se_var (pv 1)))) (fun _ _ _ _ _ => (sg_name (pg_name (i := 9) nd rfl (Or.inl rfl)))) (fun _ _ _ _ _ => sts_nil) (fun _ _ _ _ _ => (se_call h__law_compare hr (by decide) rfl (sa_cons (se_var (pv 9)) (sa_cons (se_var (pv 3)) sa_nil))))) (ss_cons (ss_if (st_ne hr (se_call h_rank_of hr (by decide) rfl (sa_cons (se_listc rfl b_list (sa_cons (se_var (pv 1)) sa_nil)) (sa_cons (se_var (pv 3)) sa_nil))) (se_tup (sa_cons (se_len rfl b_len (sa_cons (se_lc (own := [("side", 10)]) rfl nd (blkOk_by (own := [("side", 10)]) rfl) (si_c (si_list (se_var (pv 4)))) (fun _ _ _ _ _ => (sg_name (pg_name (i := 10) nd rfl (Or.inl rfl)))) (fun _ _ _ _ _ => (sts_one (st_lt (se_var (pv 10)) se_int))) (fun _ _ _ _ _ => se_int)) sa_nil)) (sa_cons (se_len rfl b_len (sa_cons (se_lc (own := [("side", 10)]) rfl nd (blkOk_by (own := [("side", 10)]) rfl) (si_c (si_list (se_var (pv 4)))) (fun _ _ _ _ _ => (sg_name (pg_name (i := 10) nd rfl (Or.inl rfl)))) (fun _ _ _ _ _ => (sts_one (st_eq hr (se_var (pv 10)) se_int))) (fun _ _ _ _ _ => se_int)) sa_nil)) sa_nil)))) (ss_one (ss_ret se_bl)) ss_nil) (ss_cons (ss_par (ps_par (i := 5) (j := 6) rfl nd rfl rfl (by decide) rfl rfl (sa_cons (se_lc (own := [("own", 9)]) rfl nd (blkOk_by (own := [("own", 9)]) rfl) (si_c (si_list (se_var (pv 1)))) (fun _ _ _ _ _ => (sg_name (pg_name (i := 9) nd rfl (Or.inl rfl)))) (fun _ _ _ _ _ => (sts_one (st_eq hr (se_call h__law_compare hr (by decide) rfl (sa_cons (se_var (pv 9)) (sa_cons (se_ix (se_var (pv 2)) se_int) sa_nil))) se_int))) (fun _ _ _ _ _ => (se_var (pv 9)))) (sa_cons (se_lc (own := [("own", 9)]) rfl nd (blkOk_by (own := [("own", 9)]) rfl) (si_c (si_list (se_var (pv 1)))) (fun _ _ _ _ _ => (sg_name (pg_name (i := 9) nd rfl (Or.inl rfl)))) (fun _ _ _ _ _ => (sts_one (st_eq hr (se_call h__law_compare hr (by decide) rfl (sa_cons (se_var (pv 9)) (sa_cons (se_ix (se_var (pv 2)) (se_sub (se_len rfl b_len (sa_cons (se_var (pv 2)) sa_nil)) se_int)) sa_nil))) se_int))) (fun _ _ _ _ _ => (se_var (pv 9)))) sa_nil)) (by rfl))) (ss_cons (ss_for PassesOwn.never rfl (si_list (se_var (pv 1))) (sg_name (pg_name (i := 7) nd rfl (Or.inl rfl))) (ss_one (ss_if (st_ne hr (se_call h_compare hr (by decide) rfl (sa_cons (se_var (pv 3)) (sa_cons (se_var (pv 7)) sa_nil))) (se_call h__law_compare hr (by decide) rfl (sa_cons (se_var (pv 3)) (sa_cons (se_var (pv 7)) sa_nil)))) (ss_one (ss_ret se_bl)) ss_nil))) (ss_one (ss_ret (se_and (se_eq hr (se_call h_least_of hr (by decide) rfl (sa_cons (se_listc rfl b_list (sa_cons (se_var (pv 1)) sa_nil)) sa_nil)) (se_ix (se_var (pv 5)) se_int)) (se_one (se_eq hr (se_call h_greatest_of hr (by decide) rfl (sa_cons (se_listc rfl b_list (sa_cons (se_var (pv 1)) sa_nil)) sa_nil)) (se_ix (se_var (pv 6)) se_int)))))))))))))))
theorem ok_law {f : Addr} {fd : FuncData} (F : Fun K "law" "law" s_law f fd) (b_range : mg "range" = none) (h__law_draws : Df P w K mg base "_law_draws" 2 1 F__law_draws) (h__law_fractions : Df P w K mg base "_law_fractions" 1 5 F__law_fractions) (h__law_sums : Df P w K mg base "_law_sums" 1 7 F__law_sums) (h__law_parts : Df P w K mg base "_law_parts" 1 10 F__law_parts) (h__law_rows : Df P w K mg base "_law_rows" 1 8 F__law_rows) (h_is_fraction : Df P w K mg base "is_fraction" 1 2 F_is_fraction) (h_is_root : Df P w K mg base "is_root" 1 3 F_is_root)
    (hd : ∀ ns : List Int, ns.length ≤ 63 → D_law (env0 4 [scr ns]) IsDraws) (hs : ∀ ns : List Int, ns.length ≤ 63 → R_law (env0 4 [scr ns, .dict []]) { nx := fun _ => False, rt := fun d => d = .bool true, bk := fun _ => False, ct := fun _ => False }) : FnOk P w K mg base CX0 11 f fd ["script"] (spLaw K) := by
  have nd : (["script", "w", "turn", "bad"] : List Str).Nodup := by decide +kernel
  refine F.ok (N := ["script", "w", "turn", "bad"]) ⟨rfl, rfl, rfl, nd, rfl, by decide +kernel, by decide +kernel⟩ (fun vs H Q E h => ?_) (fun cdv A outer s0 H vs Q E hr h => ?_)
  · obtain ⟨a, ns, rfl, _⟩ := h
    rfl
  · obtain ⟨a, ns, rfl, hS, hl, q⟩ := h
    refine ⟨_, pss_cons (ps_set (i := 1) nd rfl (Or.inl rfl) (pe_disp (pps_cons pe_str (by exact (se_call (aw := none) h__law_draws hr (by decide) rfl (sa_cons (se_var (pv 0)) (sa_cons se_int sa_nil)))) (pps_cons pe_str pe_int pps_nil)) rfl rfl (by simp) (by simp))) (sse fun aw => (ss_cons (ss_for PassesOwn.never rfl (si_rng1 rfl b_range (sa_cons se_int sa_nil)) (sg_name (pg_name (i := 2) nd rfl (Or.inl rfl))) (ss_one (ss_if (st_w (sw_or (st_not (st_val (se_call h__law_fractions hr (by decide) rfl (sa_cons (se_var (pv 1)) sa_nil)))) (sw_or (st_not (st_val (se_call h__law_sums hr (by decide) rfl (sa_cons (se_var (pv 1)) sa_nil)))) (sw_or (st_not (st_val (se_call h__law_parts hr (by decide) rfl (sa_cons (se_var (pv 1)) sa_nil)))) (sw_or1 (st_not (st_val (se_call h__law_rows hr (by decide) rfl (sa_cons (se_var (pv 1)) sa_nil))))))))) (ss_one (ss_ret se_bl)) ss_nil))) (ss_cons (ss_for PassesOwn.never rfl (si_list (se_lst (sa_cons se_non (sa_cons (se_tup (sa_cons se_int (sa_cons se_int sa_nil))) (sa_cons (se_tup (sa_cons se_int (sa_cons se_int sa_nil))) (sa_cons (se_tup (sa_cons se_int (sa_cons (se_neg se_int) sa_nil))) (sa_cons (se_tup (sa_cons se_bl (sa_cons se_int sa_nil))) (sa_cons (se_tup (sa_cons se_int (sa_cons se_int (sa_cons se_int sa_nil)))) (sa_cons (se_lst (sa_cons se_int (sa_cons se_int sa_nil))) (sa_cons (se_tup (sa_cons se_str (sa_cons se_int sa_nil))) (sa_cons (se_tup (sa_cons (se_tup (sa_cons se_int (sa_cons se_int sa_nil))) (sa_cons (se_tup (sa_cons se_int (sa_cons se_int sa_nil))) sa_nil))) sa_nil))))))))))) (sg_name (pg_name (i := 3) nd rfl (Or.inl rfl))) (ss_one (ss_if (st_notB (se_call h_is_fraction hr (by decide) rfl (sa_cons (se_var (pv 3)) sa_nil)) se_bl) (ss_one (ss_ret se_bl)) ss_nil))) (ss_cons (ss_for PassesOwn.never rfl (si_list (se_lst (sa_cons se_non (sa_cons (se_tup (sa_cons (se_tup (sa_cons se_int (sa_cons se_int sa_nil))) (sa_cons (se_tup (sa_cons se_int (sa_cons se_int sa_nil))) sa_nil))) (sa_cons (se_tup (sa_cons (se_tup (sa_cons se_int (sa_cons se_int sa_nil))) (sa_cons (se_tup (sa_cons se_int (sa_cons se_int sa_nil))) (sa_cons (se_tup (sa_cons se_int (sa_cons se_int sa_nil))) sa_nil)))) (sa_cons (se_tup (sa_cons (se_tup (sa_cons se_int (sa_cons se_int sa_nil))) (sa_cons (se_tup (sa_cons se_int (sa_cons se_int sa_nil))) (sa_cons (se_tup (sa_cons se_int (sa_cons se_int sa_nil))) sa_nil)))) (sa_cons (se_tup (sa_cons (se_tup (sa_cons se_int (sa_cons se_int sa_nil))) (sa_cons (se_tup (sa_cons se_int (sa_cons se_int sa_nil))) (sa_cons (se_tup (sa_cons (se_neg se_int) (sa_cons se_int sa_nil))) sa_nil)))) (sa_cons (se_lst (sa_cons (se_tup (sa_cons se_int (sa_cons se_int sa_nil))) (sa_cons (se_tup (sa_cons se_int (sa_cons se_int sa_nil))) (sa_cons (se_tup (sa_cons se_int (sa_cons se_int sa_nil))) sa_nil)))) (sa_cons (se_tup (sa_cons (se_tup (sa_cons se_int (sa_cons se_int sa_nil))) (sa_cons (se_tup (sa_cons se_int (sa_cons se_int sa_nil))) (sa_cons se_int sa_nil)))) sa_nil))))))))) (sg_name (pg_name (i := 3) nd rfl (Or.inl rfl))) (ss_one (ss_if (st_notB (se_call h_is_root hr (by decide) rfl (sa_cons (se_var (pv 3)) sa_nil)) se_bl) (ss_one (ss_ret se_bl)) ss_nil))) (ss_one (ss_ret se_bl)))))), ?_⟩
    exact law_reads (m := D_law) (s := R_law) (by decide) hS (hd ns hl) (hs ns hl) q
end

theorem all_mk {w : PySem.World} {K : PySem.W.Frag} {h : Heap} {mg : Str → Option Value} {fa : Addr} (X : K.In h) (G : h.Ns mainGlobals mg) (hfa : mg "law" = some (.ref fa))
    (d__law_draws : DefAt K "_law_draws" s__law_draws)
    (d_is_number : DefAt K "is_number" s_is_number)
    (d_common : DefAt K "common" s_common)
    (d_is_fraction : DefAt K "is_fraction" s_is_fraction)
    (d_is_root : DefAt K "is_root" s_is_root)
    (d__law_frac : DefAt K "_law_frac" s__law_frac)
    (d__law_next : DefAt K "_law_next" s__law_next)
    (d__law_part : DefAt K "_law_part" s__law_part)
    (d_fraction : DefAt K "fraction" s_fraction)
    (d_whole : DefAt K "whole" s_whole)
    (d_minus : DefAt K "minus" s_minus)
    (d__law_less : DefAt K "_law_less" s__law_less)
    (d_times : DefAt K "times" s_times)
    (d__law_mul : DefAt K "_law_mul" s__law_mul)
    (d_turned : DefAt K "turned" s_turned)
    (d_square : DefAt K "square" s_square)
    (d_half : DefAt K "half" s_half)
    (d_sign_of : DefAt K "sign_of" s_sign_of)
    (d_sign : DefAt K "sign" s_sign)
    (d__law_sgn : DefAt K "_law_sgn" s__law_sgn)
    (d_is_less : DefAt K "is_less" s_is_less)
    (d_floor : DefAt K "floor" s_floor)
    (d_added : DefAt K "added" s_added)
    (d_middle : DefAt K "middle" s_middle)
    (d__law_over : DefAt K "_law_over" s__law_over)
    (d_sum_of : DefAt K "sum_of" s_sum_of)
    (d__law_add : DefAt K "_law_add" s__law_add)
    (d_over : DefAt K "over" s_over)
    (d__law_fractions : DefAt K "_law_fractions" s__law_fractions)
    (d__law_pick : DefAt K "_law_pick" s__law_pick)
    (d_plain : DefAt K "plain" s_plain)
    (d_whole_root : DefAt K "whole_root" s_whole_root)
    (d_tidy : DefAt K "tidy" s_tidy)
    (d__law_number : DefAt K "_law_number" s__law_number)
    (d__law_sign : DefAt K "_law_sign" s__law_sign)
    (d_times_root : DefAt K "times_root" s_times_root)
    (d__law_compare : DefAt K "_law_compare" s__law_compare)
    (d__law_is : DefAt K "_law_is" s__law_is)
    (d_over_root : DefAt K "over_root" s_over_root)
    (d_sign_of_root : DefAt K "sign_of_root" s_sign_of_root)
    (d_root_of : DefAt K "root_of" s_root_of)
    (d_added_root : DefAt K "added_root" s_added_root)
    (d_turned_root : DefAt K "turned_root" s_turned_root)
    (d_minus_root : DefAt K "minus_root" s_minus_root)
    (d_by_fraction : DefAt K "by_fraction" s_by_fraction)
    (d__law_sums : DefAt K "_law_sums" s__law_sums)
    (d_bound_of : DefAt K "bound_of" s_bound_of)
    (d_sign_of_two : DefAt K "sign_of_two" s_sign_of_two)
    (d_compare : DefAt K "compare" s_compare)
    (d_floor_of : DefAt K "floor_of" s_floor_of)
    (d_rounded : DefAt K "rounded" s_rounded)
    (d_near_by : DefAt K "near_by" s_near_by)
    (d_digits_of : DefAt K "digits_of" s_digits_of)
    (d_between : DefAt K "between" s_between)
    (d__law_parts : DefAt K "_law_parts" s__law_parts)
    (d_sorted_roots : DefAt K "sorted_roots" s_sorted_roots)
    (d_rank_of : DefAt K "rank_of" s_rank_of)
    (d_least_of : DefAt K "least_of" s_least_of)
    (d_greatest_of : DefAt K "greatest_of" s_greatest_of)
    (d__law_rows : DefAt K "_law_rows" s__law_rows)
    (d_law : DefAt K "law" s_law)
    (cc_NOTHING : CstAt K "NOTHING" (0) (1))
    (cc_WHOLE : CstAt K "WHOLE" (1) (1))
    (z_range : PySem.W.nsIn K mainGlobals "range" = some none)
    (z_len : PySem.W.nsIn K mainGlobals "len" = some none)
    (z_abs : PySem.W.nsIn K mainGlobals "abs" = some none)
    (z_int : PySem.W.nsIn K mainGlobals "int" = some none)
    (z_isinstance : PySem.W.nsIn K mainGlobals "isinstance" = some none)
    (z_bool : PySem.W.nsIn K mainGlobals "bool" = some none)
    (z_tuple : PySem.W.nsIn K mainGlobals "tuple" = some none)
    (z_all : PySem.W.nsIn K mainGlobals "all" = some none)
    (z_str : PySem.W.nsIn K mainGlobals "str" = some none)
    (z_list : PySem.W.nsIn K mainGlobals "list" = some none)
    (z_sorted : PySem.W.nsIn K mainGlobals "sorted" = some none)
    (hd : ∀ ns : List Int, ns.length ≤ 63 → D_law (env0 4 [scr ns]) IsDraws) (hs : ∀ ns : List Int, ns.length ≤ 63 → R_law (env0 4 [scr ns, .dict []]) { nx := fun _ => False, rt := fun d => d = .bool true, bk := fun _ => False, ct := fun _ => False }) :
    ∃ fd : FuncData, (∀ (s : Shared) (v : Value), BindsTo s fd ⟨[v], []⟩ [("script", v)]) ∧ ∀ base : Heap, K.In base → base.Ns mainGlobals mg → FnOk PySem.Challenge.rw_cornersexact_k00_wide_numbers_in_order.prog w K mg base CX0 11 fa fd ["script"] (spLaw K) := by
  have k_NOTHING : Kst K mg "NOTHING" c_NOTHING := by
    obtain ⟨_, _, _, _, _, _, a, l⟩ := cc_NOTHING
    exact kst_pair (PySem.W.mg_of X G a) l
  have k_WHOLE : Kst K mg "WHOLE" c_WHOLE := by
    obtain ⟨_, _, _, _, _, _, a, l⟩ := cc_WHOLE
    exact kst_pair (PySem.W.mg_of X G a) l
  have b_range := PySem.W.mg_none_of X G z_range
  have b_len := PySem.W.mg_none_of X G z_len
  have b_abs := PySem.W.mg_none_of X G z_abs
  have b_int := PySem.W.mg_none_of X G z_int
  have b_isinstance := PySem.W.mg_none_of X G z_isinstance
  have b_bool := PySem.W.mg_none_of X G z_bool
  have b_tuple := PySem.W.mg_none_of X G z_tuple
  have b_all := PySem.W.mg_none_of X G z_all
  have b_str := PySem.W.mg_none_of X G z_str
  have b_list := PySem.W.mg_none_of X G z_list
  have b_sorted := PySem.W.mg_none_of X G z_sorted
  have h__law_draws : ∀ base, Df PySem.Challenge.rw_cornersexact_k00_wide_numbers_in_order.prog w K mg base "_law_draws" 2 1 F__law_draws := by
    obtain ⟨_, _, f, g⟩ := d__law_draws.has X G
    exact fun base => ok__law_draws f g  b_range b_len b_abs b_int 
  have h_is_number : ∀ base, Df PySem.Challenge.rw_cornersexact_k00_wide_numbers_in_order.prog w K mg base "is_number" 1 1 F_is_number := by
    obtain ⟨_, _, f, g⟩ := d_is_number.has X G
    exact fun base => ok_is_number f g  b_isinstance b_int b_bool 
  have h_common : ∀ base, Df PySem.Challenge.rw_cornersexact_k00_wide_numbers_in_order.prog w K mg base "common" 2 1 F_common := by
    obtain ⟨_, _, f, g⟩ := d_common.has X G
    exact fun base => ok_common f g  b_abs 
  have h_is_fraction : ∀ base, Df PySem.Challenge.rw_cornersexact_k00_wide_numbers_in_order.prog w K mg base "is_fraction" 1 2 F_is_fraction := by
    obtain ⟨_, _, f, g⟩ := d_is_fraction.has X G
    exact fun base => ok_is_fraction f g  b_isinstance b_tuple b_len (h_is_number base) (h_common base)
  have h_is_root : ∀ base, Df PySem.Challenge.rw_cornersexact_k00_wide_numbers_in_order.prog w K mg base "is_root" 1 3 F_is_root := by
    obtain ⟨_, _, f, g⟩ := d_is_root.has X G
    exact fun base => ok_is_root f g k_NOTHING b_isinstance b_tuple b_len b_all (h_is_fraction base)
  have h__law_frac : ∀ base, Df PySem.Challenge.rw_cornersexact_k00_wide_numbers_in_order.prog w K mg base "_law_frac" 2 1 F__law_frac := by
    obtain ⟨_, _, f, g⟩ := d__law_frac.has X G
    exact fun base => ok__law_frac f g  b_abs b_range 
  have h__law_next : ∀ base, Df PySem.Challenge.rw_cornersexact_k00_wide_numbers_in_order.prog w K mg base "_law_next" 2 1 F__law_next := by
    obtain ⟨_, _, f, g⟩ := d__law_next.has X G
    exact fun base => ok__law_next f g  b_len b_int 
  have h__law_part : ∀ base, Df PySem.Challenge.rw_cornersexact_k00_wide_numbers_in_order.prog w K mg base "_law_part" 1 2 F__law_part := by
    obtain ⟨_, _, f, g⟩ := d__law_part.has X G
    exact fun base => ok__law_part f g   (h__law_next base) (h__law_frac base)
  have h_fraction : ∀ base, Df PySem.Challenge.rw_cornersexact_k00_wide_numbers_in_order.prog w K mg base "fraction" 2 2 F_fraction := by
    obtain ⟨_, _, f, g⟩ := d_fraction.has X G
    exact fun base => ok_fraction f g   (h_common base)
  have h_whole : ∀ base, Df PySem.Challenge.rw_cornersexact_k00_wide_numbers_in_order.prog w K mg base "whole" 1 1 F_whole := by
    obtain ⟨_, _, f, g⟩ := d_whole.has X G
    exact fun base => ok_whole f g   
  have h_minus : ∀ base, Df PySem.Challenge.rw_cornersexact_k00_wide_numbers_in_order.prog w K mg base "minus" 2 3 F_minus := by
    obtain ⟨_, _, f, g⟩ := d_minus.has X G
    exact fun base => ok_minus f g   (h_fraction base)
  have h__law_less : ∀ base, Df PySem.Challenge.rw_cornersexact_k00_wide_numbers_in_order.prog w K mg base "_law_less" 2 2 F__law_less := by
    obtain ⟨_, _, f, g⟩ := d__law_less.has X G
    exact fun base => ok__law_less f g   (h__law_frac base)
  have h_times : ∀ base, Df PySem.Challenge.rw_cornersexact_k00_wide_numbers_in_order.prog w K mg base "times" 2 3 F_times := by
    obtain ⟨_, _, f, g⟩ := d_times.has X G
    exact fun base => ok_times f g   (h_fraction base)
  have h__law_mul : ∀ base, Df PySem.Challenge.rw_cornersexact_k00_wide_numbers_in_order.prog w K mg base "_law_mul" 2 2 F__law_mul := by
    obtain ⟨_, _, f, g⟩ := d__law_mul.has X G
    exact fun base => ok__law_mul f g   (h__law_frac base)
  have h_turned : ∀ base, Df PySem.Challenge.rw_cornersexact_k00_wide_numbers_in_order.prog w K mg base "turned" 1 1 F_turned := by
    obtain ⟨_, _, f, g⟩ := d_turned.has X G
    exact fun base => ok_turned f g   
  have h_square : ∀ base, Df PySem.Challenge.rw_cornersexact_k00_wide_numbers_in_order.prog w K mg base "square" 1 1 F_square := by
    obtain ⟨_, _, f, g⟩ := d_square.has X G
    exact fun base => ok_square f g   
  have h_half : ∀ base, Df PySem.Challenge.rw_cornersexact_k00_wide_numbers_in_order.prog w K mg base "half" 1 3 F_half := by
    obtain ⟨_, _, f, g⟩ := d_half.has X G
    exact fun base => ok_half f g   (h_fraction base)
  have h_sign_of : ∀ base, Df PySem.Challenge.rw_cornersexact_k00_wide_numbers_in_order.prog w K mg base "sign_of" 1 1 F_sign_of := by
    obtain ⟨_, _, f, g⟩ := d_sign_of.has X G
    exact fun base => ok_sign_of f g   
  have h_sign : ∀ base, Df PySem.Challenge.rw_cornersexact_k00_wide_numbers_in_order.prog w K mg base "sign" 1 2 F_sign := by
    obtain ⟨_, _, f, g⟩ := d_sign.has X G
    exact fun base => ok_sign f g   (h_sign_of base)
  have h__law_sgn : ∀ base, Df PySem.Challenge.rw_cornersexact_k00_wide_numbers_in_order.prog w K mg base "_law_sgn" 1 1 F__law_sgn := by
    obtain ⟨_, _, f, g⟩ := d__law_sgn.has X G
    exact fun base => ok__law_sgn f g   
  have h_is_less : ∀ base, Df PySem.Challenge.rw_cornersexact_k00_wide_numbers_in_order.prog w K mg base "is_less" 2 1 F_is_less := by
    obtain ⟨_, _, f, g⟩ := d_is_less.has X G
    exact fun base => ok_is_less f g   
  have h_floor : ∀ base, Df PySem.Challenge.rw_cornersexact_k00_wide_numbers_in_order.prog w K mg base "floor" 1 1 F_floor := by
    obtain ⟨_, _, f, g⟩ := d_floor.has X G
    exact fun base => ok_floor f g   
  have h_added : ∀ base, Df PySem.Challenge.rw_cornersexact_k00_wide_numbers_in_order.prog w K mg base "added" 2 3 F_added := by
    obtain ⟨_, _, f, g⟩ := d_added.has X G
    exact fun base => ok_added f g   (h_fraction base)
  have h_middle : ∀ base, Df PySem.Challenge.rw_cornersexact_k00_wide_numbers_in_order.prog w K mg base "middle" 2 4 F_middle := by
    obtain ⟨_, _, f, g⟩ := d_middle.has X G
    exact fun base => ok_middle f g   (h_added base) (h_half base)
  have h__law_over : ∀ base, Df PySem.Challenge.rw_cornersexact_k00_wide_numbers_in_order.prog w K mg base "_law_over" 2 2 F__law_over := by
    obtain ⟨_, _, f, g⟩ := d__law_over.has X G
    exact fun base => ok__law_over f g   (h__law_frac base)
  have h_sum_of : ∀ base, Df PySem.Challenge.rw_cornersexact_k00_wide_numbers_in_order.prog w K mg base "sum_of" 1 4 F_sum_of := by
    obtain ⟨_, _, f, g⟩ := d_sum_of.has X G
    exact fun base => ok_sum_of f g k_NOTHING  (h_added base)
  have h__law_add : ∀ base, Df PySem.Challenge.rw_cornersexact_k00_wide_numbers_in_order.prog w K mg base "_law_add" 2 2 F__law_add := by
    obtain ⟨_, _, f, g⟩ := d__law_add.has X G
    exact fun base => ok__law_add f g   (h__law_frac base)
  have h_over : ∀ base, Df PySem.Challenge.rw_cornersexact_k00_wide_numbers_in_order.prog w K mg base "over" 2 3 F_over := by
    obtain ⟨_, _, f, g⟩ := d_over.has X G
    exact fun base => ok_over f g   (h_fraction base)
  have h__law_fractions : ∀ base, Df PySem.Challenge.rw_cornersexact_k00_wide_numbers_in_order.prog w K mg base "_law_fractions" 1 5 F__law_fractions := by
    obtain ⟨_, _, f, g⟩ := d__law_fractions.has X G
    exact fun base => ok__law_fractions f g   (h__law_part base) (h_is_fraction base) (h_fraction base) (h__law_frac base) (h_whole base) (h_minus base) (h__law_less base) (h_times base) (h__law_mul base) (h_turned base) (h_square base) (h_half base) (h_sign base) (h__law_sgn base) (h_is_less base) (h_floor base) (h_middle base) (h__law_add base) (h__law_over base) (h_sum_of base) (h_over base)
  have h__law_pick : ∀ base, Df PySem.Challenge.rw_cornersexact_k00_wide_numbers_in_order.prog w K mg base "_law_pick" 2 2 F__law_pick := by
    obtain ⟨_, _, f, g⟩ := d__law_pick.has X G
    exact fun base => ok__law_pick f g  b_len (h__law_next base)
  have h_plain : ∀ base, Df PySem.Challenge.rw_cornersexact_k00_wide_numbers_in_order.prog w K mg base "plain" 1 1 F_plain := by
    obtain ⟨_, _, f, g⟩ := d_plain.has X G
    exact fun base => ok_plain f g k_NOTHING  
  have h_whole_root : ∀ base, Df PySem.Challenge.rw_cornersexact_k00_wide_numbers_in_order.prog w K mg base "whole_root" 1 1 F_whole_root := by
    obtain ⟨_, _, f, g⟩ := d_whole_root.has X G
    exact fun base => ok_whole_root f g   
  have h_tidy : ∀ base, Df PySem.Challenge.rw_cornersexact_k00_wide_numbers_in_order.prog w K mg base "tidy" 3 4 F_tidy := by
    obtain ⟨_, _, f, g⟩ := d_tidy.has X G
    exact fun base => ok_tidy f g k_NOTHING  (h_plain base) (h_whole_root base) (h_times base) (h_added base)
  have h__law_number : ∀ base, Df PySem.Challenge.rw_cornersexact_k00_wide_numbers_in_order.prog w K mg base "_law_number" 2 5 F__law_number := by
    obtain ⟨_, _, f, g⟩ := d__law_number.has X G
    exact fun base => ok__law_number f g   (h__law_part base) (h_tidy base)
  have h__law_sign : ∀ base, Df PySem.Challenge.rw_cornersexact_k00_wide_numbers_in_order.prog w K mg base "_law_sign" 1 3 F__law_sign := by
    obtain ⟨_, _, f, g⟩ := d__law_sign.has X G
    exact fun base => ok__law_sign f g   (h__law_sgn base) (h__law_mul base) (h__law_less base)
  have h_times_root : ∀ base, Df PySem.Challenge.rw_cornersexact_k00_wide_numbers_in_order.prog w K mg base "times_root" 2 5 F_times_root := by
    obtain ⟨_, _, f, g⟩ := d_times_root.has X G
    exact fun base => ok_times_root f g k_NOTHING  (h_times base) (h_added base) (h_tidy base)
  have h__law_compare : ∀ base, Df PySem.Challenge.rw_cornersexact_k00_wide_numbers_in_order.prog w K mg base "_law_compare" 2 4 F__law_compare := by
    obtain ⟨_, _, f, g⟩ := d__law_compare.has X G
    exact fun base => ok__law_compare f g   (h__law_less base) (h__law_sign base) (h__law_sgn base) (h__law_mul base) (h__law_add base)
  have h__law_is : ∀ base, Df PySem.Challenge.rw_cornersexact_k00_wide_numbers_in_order.prog w K mg base "_law_is" 4 5 F__law_is := by
    obtain ⟨_, _, f, g⟩ := d__law_is.has X G
    exact fun base => ok__law_is f g   (h_is_root base) (h__law_compare base)
  have h_over_root : ∀ base, Df PySem.Challenge.rw_cornersexact_k00_wide_numbers_in_order.prog w K mg base "over_root" 2 6 F_over_root := by
    obtain ⟨_, _, f, g⟩ := d_over_root.has X G
    exact fun base => ok_over_root f g   (h_square base) (h_times base) (h_minus base) (h_over base) (h_turned base) (h_tidy base) (h_times_root base)
  have h_sign_of_root : ∀ base, Df PySem.Challenge.rw_cornersexact_k00_wide_numbers_in_order.prog w K mg base "sign_of_root" 1 4 F_sign_of_root := by
    obtain ⟨_, _, f, g⟩ := d_sign_of_root.has X G
    exact fun base => ok_sign_of_root f g k_NOTHING  (h_sign base) (h_square base) (h_times base) (h_minus base)
  have h_root_of : ∀ base, Df PySem.Challenge.rw_cornersexact_k00_wide_numbers_in_order.prog w K mg base "root_of" 1 5 F_root_of := by
    obtain ⟨_, _, f, g⟩ := d_root_of.has X G
    exact fun base => ok_root_of f g k_NOTHING k_WHOLE  (h_tidy base)
  have h_added_root : ∀ base, Df PySem.Challenge.rw_cornersexact_k00_wide_numbers_in_order.prog w K mg base "added_root" 2 5 F_added_root := by
    obtain ⟨_, _, f, g⟩ := d_added_root.has X G
    exact fun base => ok_added_root f g k_NOTHING  (h_added base) (h_tidy base)
  have h_turned_root : ∀ base, Df PySem.Challenge.rw_cornersexact_k00_wide_numbers_in_order.prog w K mg base "turned_root" 1 2 F_turned_root := by
    obtain ⟨_, _, f, g⟩ := d_turned_root.has X G
    exact fun base => ok_turned_root f g   (h_turned base)
  have h_minus_root : ∀ base, Df PySem.Challenge.rw_cornersexact_k00_wide_numbers_in_order.prog w K mg base "minus_root" 2 6 F_minus_root := by
    obtain ⟨_, _, f, g⟩ := d_minus_root.has X G
    exact fun base => ok_minus_root f g   (h_turned_root base) (h_added_root base)
  have h_by_fraction : ∀ base, Df PySem.Challenge.rw_cornersexact_k00_wide_numbers_in_order.prog w K mg base "by_fraction" 2 5 F_by_fraction := by
    obtain ⟨_, _, f, g⟩ := d_by_fraction.has X G
    exact fun base => ok_by_fraction f g   (h_times base) (h_tidy base)
  have h__law_sums : ∀ base, Df PySem.Challenge.rw_cornersexact_k00_wide_numbers_in_order.prog w K mg base "_law_sums" 1 7 F__law_sums := by
    obtain ⟨_, _, f, g⟩ := d__law_sums.has X G
    exact fun base => ok__law_sums f g   (h__law_pick base) (h__law_number base) (h__law_part base) (h_added_root base) (h__law_add base) (h__law_is base) (h_minus_root base) (h__law_less base) (h__law_mul base) (h_times_root base) (h_by_fraction base) (h__law_sign base) (h_over_root base) (h__law_compare base) (h_sign_of_root base) (h_root_of base) (h_plain base)
  have h_bound_of : ∀ base, Df PySem.Challenge.rw_cornersexact_k00_wide_numbers_in_order.prog w K mg base "bound_of" 1 4 F_bound_of := by
    obtain ⟨_, _, f, g⟩ := d_bound_of.has X G
    exact fun base => ok_bound_of f g  b_abs (h_square base) (h_times base)
  have h_sign_of_two : ∀ base, Df PySem.Challenge.rw_cornersexact_k00_wide_numbers_in_order.prog w K mg base "sign_of_two" 5 5 F_sign_of_two := by
    obtain ⟨_, _, f, g⟩ := d_sign_of_two.has X G
    exact fun base => ok_sign_of_two f g k_NOTHING  (h_sign_of_root base) (h_sign base) (h_square base) (h_times base) (h_sum_of base) (h_minus base)
  have h_compare : ∀ base, Df PySem.Challenge.rw_cornersexact_k00_wide_numbers_in_order.prog w K mg base "compare" 2 6 F_compare := by
    obtain ⟨_, _, f, g⟩ := d_compare.has X G
    exact fun base => ok_compare f g   (h_minus base) (h_turned base) (h_sign_of_two base)
  have h_floor_of : ∀ base, Df PySem.Challenge.rw_cornersexact_k00_wide_numbers_in_order.prog w K mg base "floor_of" 1 7 F_floor_of := by
    obtain ⟨_, _, f, g⟩ := d_floor_of.has X G
    exact fun base => ok_floor_of f g   (h_bound_of base) (h_whole base) (h_plain base) (h_compare base)
  have h_rounded : ∀ base, Df PySem.Challenge.rw_cornersexact_k00_wide_numbers_in_order.prog w K mg base "rounded" 2 8 F_rounded := by
    obtain ⟨_, _, f, g⟩ := d_rounded.has X G
    exact fun base => ok_rounded f g  b_range (h_whole base) (h_by_fraction base) (h_fraction base) (h_plain base) (h_minus_root base) (h_floor_of base)
  have h_near_by : ∀ base, Df PySem.Challenge.rw_cornersexact_k00_wide_numbers_in_order.prog w K mg base "near_by" 2 8 F_near_by := by
    obtain ⟨_, _, f, g⟩ := d_near_by.has X G
    exact fun base => ok_near_by f g   (h_whole base) (h_by_fraction base) (h_floor_of base) (h_fraction base)
  have h_digits_of : ∀ base, Df PySem.Challenge.rw_cornersexact_k00_wide_numbers_in_order.prog w K mg base "digits_of" 2 9 F_digits_of := by
    obtain ⟨_, _, f, g⟩ := d_digits_of.has X G
    exact fun base => ok_digits_of f g  b_str b_abs b_len (h_rounded base)
  have h_between : ∀ base, Df PySem.Challenge.rw_cornersexact_k00_wide_numbers_in_order.prog w K mg base "between" 2 8 F_between := by
    obtain ⟨_, _, f, g⟩ := d_between.has X G
    exact fun base => ok_between f g   (h_whole base) (h_by_fraction base) (h_floor_of base) (h_fraction base) (h_plain base) (h_compare base)
  have h__law_parts : ∀ base, Df PySem.Challenge.rw_cornersexact_k00_wide_numbers_in_order.prog w K mg base "_law_parts" 1 10 F__law_parts := by
    obtain ⟨_, _, f, g⟩ := d__law_parts.has X G
    exact fun base => ok__law_parts f g  b_isinstance b_int b_range b_str b_abs b_len (h__law_pick base) (h__law_number base) (h_floor_of base) (h__law_compare base) (h__law_next base) (h_near_by base) (h_by_fraction base) (h__law_frac base) (h__law_add base) (h_rounded base) (h_digits_of base) (h_between base)
  have h_sorted_roots : ∀ base, Df PySem.Challenge.rw_cornersexact_k00_wide_numbers_in_order.prog w K mg base "sorted_roots" 1 7 F_sorted_roots := by
    obtain ⟨_, _, f, g⟩ := d_sorted_roots.has X G
    exact fun base => ok_sorted_roots f g  b_len b_tuple (h_compare base)
  have h_rank_of : ∀ base, Df PySem.Challenge.rw_cornersexact_k00_wide_numbers_in_order.prog w K mg base "rank_of" 2 7 F_rank_of := by
    obtain ⟨_, _, f, g⟩ := d_rank_of.has X G
    exact fun base => ok_rank_of f g   (h_compare base)
  have h_least_of : ∀ base, Df PySem.Challenge.rw_cornersexact_k00_wide_numbers_in_order.prog w K mg base "least_of" 1 7 F_least_of := by
    obtain ⟨_, _, f, g⟩ := d_least_of.has X G
    exact fun base => ok_least_of f g   (h_compare base)
  have h_greatest_of : ∀ base, Df PySem.Challenge.rw_cornersexact_k00_wide_numbers_in_order.prog w K mg base "greatest_of" 1 7 F_greatest_of := by
    obtain ⟨_, _, f, g⟩ := d_greatest_of.has X G
    exact fun base => ok_greatest_of f g   (h_compare base)
  have h__law_rows : ∀ base, Df PySem.Challenge.rw_cornersexact_k00_wide_numbers_in_order.prog w K mg base "_law_rows" 1 8 F__law_rows := by
    obtain ⟨_, _, f, g⟩ := d__law_rows.has X G
    exact fun base => ok__law_rows f g  b_range b_list b_isinstance b_tuple b_sorted b_len (h__law_next base) (h__law_pick base) (h__law_number base) (h_sorted_roots base) (h__law_compare base) (h_rank_of base) (h_compare base) (h_least_of base) (h_greatest_of base)
  obtain ⟨f, _, _, _, _, _, _, _, _, _, a, l, c, k⟩ := d_law
  have e := hfa.symm.trans (PySem.W.mg_of X G a)
  cases e
  exact ⟨_, fun s v => .of_eq rfl, fun base _ _ => ok_law (fun_mk (st := s_law) l c k)  b_range (h__law_draws base) (h__law_fractions base) (h__law_sums base) (h__law_parts base) (h__law_rows base) (h_is_fraction base) (h_is_root base) hd hs⟩

end Pl
open PySem PySem.W PyProof.Rows in
set_option maxRecDepth 100000 in
set_option maxHeartbeats 0 in
theorem PySem.Challenge.cw_cornersexact_k00_wide_numbers_in_order_holds : PySem.Challenge.rw_cornersexact_k00_wide_numbers_in_order.Holds := by
  w_on; o_law; k_head; (case hw => w_witness2)
  k_fill
  refine L2.walk_of (l := PySem.Challenge.rw_cornersexact_k00_wide_numbers_in_order) (n := 63) (k := 11) (x := "script") (CX := fun _ => L2.CX0) (sp := fun w => Pl.spLaw _) rfl (by decide) rfl ⟨rfl, by decide, by decide⟩ (fun w h Y => PySem.W.kIn_of Y) ?F (fun _ _ a ns hl ho hS => ⟨a, ns, rfl, Pl.scl_of ho hS, hl, fun _ => rfl⟩) (fun _ _ _ _ _ h => h)
  case F =>
    intro w mg fa h KX G hmg
    refine' Pl.all_mk KX G hmg ?d__law_draws ?d_is_number ?d_common ?d_is_fraction ?d_is_root ?d__law_frac ?d__law_next ?d__law_part ?d_fraction ?d_whole ?d_minus ?d__law_less ?d_times ?d__law_mul ?d_turned ?d_square ?d_half ?d_sign_of ?d_sign ?d__law_sgn ?d_is_less ?d_floor ?d_added ?d_middle ?d__law_over ?d_sum_of ?d__law_add ?d_over ?d__law_fractions ?d__law_pick ?d_plain ?d_whole_root ?d_tidy ?d__law_number ?d__law_sign ?d_times_root ?d__law_compare ?d__law_is ?d_over_root ?d_sign_of_root ?d_root_of ?d_added_root ?d_turned_root ?d_minus_root ?d_by_fraction ?d__law_sums ?d_bound_of ?d_sign_of_two ?d_compare ?d_floor_of ?d_rounded ?d_near_by ?d_digits_of ?d_between ?d__law_parts ?d_sorted_roots ?d_rank_of ?d_least_of ?d_greatest_of ?d__law_rows ?d_law ?c_NOTHING ?c_WHOLE ?z_range ?z_len ?z_abs ?z_int ?z_isinstance ?z_bool ?z_tuple ?z_all ?z_str ?z_list ?z_sorted Pl.hd_law Pl.hs_law
    (case d__law_draws => refine' Pl.defAt ?a ?l ?c ?k; (case a => k_is); (case l => k_is); (case c => k_is); (case k => k_is))
    (case d_is_number => refine' Pl.defAt ?a ?l ?c ?k; (case a => k_is); (case l => k_is); (case c => k_is); (case k => k_is))
    (case d_common => refine' Pl.defAt ?a ?l ?c ?k; (case a => k_is); (case l => k_is); (case c => k_is); (case k => k_is))
    (case d_is_fraction => refine' Pl.defAt ?a ?l ?c ?k; (case a => k_is); (case l => k_is); (case c => k_is); (case k => k_is))
    (case d_is_root => refine' Pl.defAt ?a ?l ?c ?k; (case a => k_is); (case l => k_is); (case c => k_is); (case k => k_is))
    (case d__law_frac => refine' Pl.defAt ?a ?l ?c ?k; (case a => k_is); (case l => k_is); (case c => k_is); (case k => k_is))
    (case d__law_next => refine' Pl.defAt ?a ?l ?c ?k; (case a => k_is); (case l => k_is); (case c => k_is); (case k => k_is))
    (case d__law_part => refine' Pl.defAt ?a ?l ?c ?k; (case a => k_is); (case l => k_is); (case c => k_is); (case k => k_is))
    (case d_fraction => refine' Pl.defAt ?a ?l ?c ?k; (case a => k_is); (case l => k_is); (case c => k_is); (case k => k_is))
    (case d_whole => refine' Pl.defAt ?a ?l ?c ?k; (case a => k_is); (case l => k_is); (case c => k_is); (case k => k_is))
    (case d_minus => refine' Pl.defAt ?a ?l ?c ?k; (case a => k_is); (case l => k_is); (case c => k_is); (case k => k_is))
    (case d__law_less => refine' Pl.defAt ?a ?l ?c ?k; (case a => k_is); (case l => k_is); (case c => k_is); (case k => k_is))
    (case d_times => refine' Pl.defAt ?a ?l ?c ?k; (case a => k_is); (case l => k_is); (case c => k_is); (case k => k_is))
    (case d__law_mul => refine' Pl.defAt ?a ?l ?c ?k; (case a => k_is); (case l => k_is); (case c => k_is); (case k => k_is))
    (case d_turned => refine' Pl.defAt ?a ?l ?c ?k; (case a => k_is); (case l => k_is); (case c => k_is); (case k => k_is))
    (case d_square => refine' Pl.defAt ?a ?l ?c ?k; (case a => k_is); (case l => k_is); (case c => k_is); (case k => k_is))
    (case d_half => refine' Pl.defAt ?a ?l ?c ?k; (case a => k_is); (case l => k_is); (case c => k_is); (case k => k_is))
    (case d_sign_of => refine' Pl.defAt ?a ?l ?c ?k; (case a => k_is); (case l => k_is); (case c => k_is); (case k => k_is))
    (case d_sign => refine' Pl.defAt ?a ?l ?c ?k; (case a => k_is); (case l => k_is); (case c => k_is); (case k => k_is))
    (case d__law_sgn => refine' Pl.defAt ?a ?l ?c ?k; (case a => k_is); (case l => k_is); (case c => k_is); (case k => k_is))
    (case d_is_less => refine' Pl.defAt ?a ?l ?c ?k; (case a => k_is); (case l => k_is); (case c => k_is); (case k => k_is))
    (case d_floor => refine' Pl.defAt ?a ?l ?c ?k; (case a => k_is); (case l => k_is); (case c => k_is); (case k => k_is))
    (case d_added => refine' Pl.defAt ?a ?l ?c ?k; (case a => k_is); (case l => k_is); (case c => k_is); (case k => k_is))
    (case d_middle => refine' Pl.defAt ?a ?l ?c ?k; (case a => k_is); (case l => k_is); (case c => k_is); (case k => k_is))
    (case d__law_over => refine' Pl.defAt ?a ?l ?c ?k; (case a => k_is); (case l => k_is); (case c => k_is); (case k => k_is))
    (case d_sum_of => refine' Pl.defAt ?a ?l ?c ?k; (case a => k_is); (case l => k_is); (case c => k_is); (case k => k_is))
    (case d__law_add => refine' Pl.defAt ?a ?l ?c ?k; (case a => k_is); (case l => k_is); (case c => k_is); (case k => k_is))
    (case d_over => refine' Pl.defAt ?a ?l ?c ?k; (case a => k_is); (case l => k_is); (case c => k_is); (case k => k_is))
    (case d__law_fractions => refine' Pl.defAt ?a ?l ?c ?k; (case a => k_is); (case l => k_is); (case c => k_is); (case k => k_is))
    (case d__law_pick => refine' Pl.defAt ?a ?l ?c ?k; (case a => k_is); (case l => k_is); (case c => k_is); (case k => k_is))
    (case d_plain => refine' Pl.defAt ?a ?l ?c ?k; (case a => k_is); (case l => k_is); (case c => k_is); (case k => k_is))
    (case d_whole_root => refine' Pl.defAt ?a ?l ?c ?k; (case a => k_is); (case l => k_is); (case c => k_is); (case k => k_is))
    (case d_tidy => refine' Pl.defAt ?a ?l ?c ?k; (case a => k_is); (case l => k_is); (case c => k_is); (case k => k_is))
    (case d__law_number => refine' Pl.defAt ?a ?l ?c ?k; (case a => k_is); (case l => k_is); (case c => k_is); (case k => k_is))
    (case d__law_sign => refine' Pl.defAt ?a ?l ?c ?k; (case a => k_is); (case l => k_is); (case c => k_is); (case k => k_is))
    (case d_times_root => refine' Pl.defAt ?a ?l ?c ?k; (case a => k_is); (case l => k_is); (case c => k_is); (case k => k_is))
    (case d__law_compare => refine' Pl.defAt ?a ?l ?c ?k; (case a => k_is); (case l => k_is); (case c => k_is); (case k => k_is))
    (case d__law_is => refine' Pl.defAt ?a ?l ?c ?k; (case a => k_is); (case l => k_is); (case c => k_is); (case k => k_is))
    (case d_over_root => refine' Pl.defAt ?a ?l ?c ?k; (case a => k_is); (case l => k_is); (case c => k_is); (case k => k_is))
    (case d_sign_of_root => refine' Pl.defAt ?a ?l ?c ?k; (case a => k_is); (case l => k_is); (case c => k_is); (case k => k_is))
    (case d_root_of => refine' Pl.defAt ?a ?l ?c ?k; (case a => k_is); (case l => k_is); (case c => k_is); (case k => k_is))
    (case d_added_root => refine' Pl.defAt ?a ?l ?c ?k; (case a => k_is); (case l => k_is); (case c => k_is); (case k => k_is))
    (case d_turned_root => refine' Pl.defAt ?a ?l ?c ?k; (case a => k_is); (case l => k_is); (case c => k_is); (case k => k_is))
    (case d_minus_root => refine' Pl.defAt ?a ?l ?c ?k; (case a => k_is); (case l => k_is); (case c => k_is); (case k => k_is))
    (case d_by_fraction => refine' Pl.defAt ?a ?l ?c ?k; (case a => k_is); (case l => k_is); (case c => k_is); (case k => k_is))
    (case d__law_sums => refine' Pl.defAt ?a ?l ?c ?k; (case a => k_is); (case l => k_is); (case c => k_is); (case k => k_is))
    (case d_bound_of => refine' Pl.defAt ?a ?l ?c ?k; (case a => k_is); (case l => k_is); (case c => k_is); (case k => k_is))
    (case d_sign_of_two => refine' Pl.defAt ?a ?l ?c ?k; (case a => k_is); (case l => k_is); (case c => k_is); (case k => k_is))
    (case d_compare => refine' Pl.defAt ?a ?l ?c ?k; (case a => k_is); (case l => k_is); (case c => k_is); (case k => k_is))
    (case d_floor_of => refine' Pl.defAt ?a ?l ?c ?k; (case a => k_is); (case l => k_is); (case c => k_is); (case k => k_is))
    (case d_rounded => refine' Pl.defAt ?a ?l ?c ?k; (case a => k_is); (case l => k_is); (case c => k_is); (case k => k_is))
    (case d_near_by => refine' Pl.defAt ?a ?l ?c ?k; (case a => k_is); (case l => k_is); (case c => k_is); (case k => k_is))
    (case d_digits_of => refine' Pl.defAt ?a ?l ?c ?k; (case a => k_is); (case l => k_is); (case c => k_is); (case k => k_is))
    (case d_between => refine' Pl.defAt ?a ?l ?c ?k; (case a => k_is); (case l => k_is); (case c => k_is); (case k => k_is))
    (case d__law_parts => refine' Pl.defAt ?a ?l ?c ?k; (case a => k_is); (case l => k_is); (case c => k_is); (case k => k_is))
    (case d_sorted_roots => refine' Pl.defAt ?a ?l ?c ?k; (case a => k_is); (case l => k_is); (case c => k_is); (case k => k_is))
    (case d_rank_of => refine' Pl.defAt ?a ?l ?c ?k; (case a => k_is); (case l => k_is); (case c => k_is); (case k => k_is))
    (case d_least_of => refine' Pl.defAt ?a ?l ?c ?k; (case a => k_is); (case l => k_is); (case c => k_is); (case k => k_is))
    (case d_greatest_of => refine' Pl.defAt ?a ?l ?c ?k; (case a => k_is); (case l => k_is); (case c => k_is); (case k => k_is))
    (case d__law_rows => refine' Pl.defAt ?a ?l ?c ?k; (case a => k_is); (case l => k_is); (case c => k_is); (case k => k_is))
    (case d_law => refine' Pl.defAt ?a ?l ?c ?k; (case a => k_is); (case l => k_is); (case c => k_is); (case k => k_is))
    (case c_NOTHING => refine' Pl.cstAt ?a ?l; (case a => k_is); (case l => k_is))
    (case c_WHOLE => refine' Pl.cstAt ?a ?l; (case a => k_is); (case l => k_is))
    (case z_range => k_is)
    (case z_len => k_is)
    (case z_abs => k_is)
    (case z_int => k_is)
    (case z_isinstance => k_is)
    (case z_bool => k_is)
    (case z_tuple => k_is)
    (case z_all => k_is)
    (case z_str => k_is)
    (case z_list => k_is)
    (case z_sorted => k_is)

