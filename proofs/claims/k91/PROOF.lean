import PyProof.Rows.All
import Wide.All
import OpenK.AllK
import Wide.FinOn
import HandS.ForMost
import HandS.Wide
import HandS.Deep
import HandS.IsInst
import HandS.NoneIn
import HandS.Style
import HandS.Words
import HandS.WordsList
import HandS.TupAny
import HandS.Dict
import HandS.More
import HandS.SetFor
import HandS.ExcValue
import KE.SortData
import KE.DataFind
import HandS.ExcInit
import HandS.Nested
import KE.KExcSuper
import HandS.WordsExc
import HandS.ExcField
import KE.KExcIs
import HandS.ExcIs
import HandS.HotCalls
import HandS.Comp
import HandS.ExcInitHot
import HandS.ReplaceLit
import PyProof.Rows.StrIntSpec
import PySem.Challenge.RW_cornersexact_k91_whole_numbers_and_curve
set_option Elab.async false
set_option linter.all false
set_option maxRecDepth 100000
namespace Pl
open PySem PySem.Spec PyProof.Rows L2

/-! ### plain meanings: what is wanted of an answer -/
abbrev D := PyData
abbrev M (α : Type) := (α → Prop) → Prop
def ret {α : Type} (a : α) : M α := fun Q => Q a
def bnd {α β : Type} (m : M α) (f : α → M β) : M β := fun Q => m fun a => f a Q
def nope {α : Type} : M α := fun _ => False

/-- a slot: nothing, a value, a list of one's own that may still grow -/
inductive Sl where
  | no | va (d : D) | ow (ds : List D)
abbrev En := List Sl

/-! ### the heap -/
/-- all that is tracked stands, but the dict at aw may turn -/
def Fx (aw : Option Addr) (a : Addr) (o : HO) : Prop := some a = aw → ∀ kvs, o ≠ .dK kvs
theorem fx_ne {aw : Option Addr} {a : Addr} {o : HO} (n : some a ≠ aw) : Fx aw a o := fun z => (n z).elim
theorem fx_lst {aw : Option Addr} {a : Addr} {xs : List V} : Fx aw a (.lst xs) := fun _ _ z => nomatch z
theorem fx_tup {aw : Option Addr} {a : Addr} {xs : List V} : Fx aw a (.tup xs) := fun _ _ z => nomatch z
theorem fx_frz {aw : Option Addr} {a : Addr} {o : Obj} {u : HO} : Fx aw a (.frz o u) := fun _ _ z => nomatch z
structure Ext (aw : Option Addr) (H H' : Hp) : Prop where
  ap : ∀ a o, Fx aw a o → H a = some o → H' a = some o
  dk : ∀ x, aw = some x → ∀ kvs, H x = some (.dK kvs) → ∃ kvs', H' x = some (.dK kvs')
theorem Ext.refl (aw : Option Addr) (H : Hp) : Ext aw H H := ⟨fun _ _ _ h => h, fun _ _ kvs h => ⟨kvs, h⟩⟩
theorem Ext.trans {aw : Option Addr} {H H1 H2 : Hp} (x : Ext aw H H1) (y : Ext aw H1 H2) : Ext aw H H2 := ⟨fun a o n h => y.ap a o n (x.ap a o n h), fun z ez kvs h => let ⟨_, h1⟩ := x.dk z ez kvs h; y.dk z ez _ h1⟩
theorem Ext.new {aw : Option Addr} {H : Hp} {p : Addr} {o : HO} (h : H p = none) : Ext aw H (upd H p o) := ⟨fun a u _ e => by
  rw [upd_ne (ne_of_none e h)]; exact e, fun _ _ kvs e => ⟨kvs, by rw [upd_ne (ne_of_none e h)]; exact e⟩⟩
/-- an object that H does not know may change -/
theorem Ext.mut {aw : Option Addr} {H H' : Hp} {p : Addr} {o : HO} (e : Ext aw H H') (h : H p = none) : Ext aw H (upd H' p o) := ⟨fun a u n ha => by
  rw [upd_ne (ne_of_none ha h)]; exact e.ap a u n ha, fun z ez kvs ha => let ⟨k', h'⟩ := e.dk z ez kvs ha; ⟨k', by rw [upd_ne (ne_of_none ha h)]; exact h'⟩⟩
/-- what is seen without the own lists -/
def cut (H : Hp) (B : List Addr) : Hp := fun a => if a ∈ B then none else H a
theorem cut_nil (H : Hp) : cut H [] = H := by funext a; unfold cut; simp
theorem cut_some {H : Hp} {B : List Addr} {a : Addr} {o : HO} (h : cut H B a = some o) : H a = some o ∧ a ∉ B := by
  unfold cut at h
  by_cases e : a ∈ B
  · rw [if_pos e] at h; cases h
  · rw [if_neg e] at h; exact ⟨h, e⟩
theorem cut_of {H : Hp} {B : List Addr} {a : Addr} {o : HO} (h : H a = some o) (n : a ∉ B) : cut H B a = some o := by
  unfold cut; rw [if_neg n]; exact h
theorem cut_ext {aw : Option Addr} {H H' : Hp} {B : List Addr} (e : Ext aw H H') : Ext aw (cut H B) (cut H' B) := ⟨fun a o n h => by
  obtain ⟨h1, h2⟩ := cut_some h
  exact cut_of (e.ap a o n h1) h2, fun z ez kvs h => by
  obtain ⟨h1, h2⟩ := cut_some h
  obtain ⟨k', h'⟩ := e.dk z ez kvs h1
  exact ⟨k', cut_of h' h2⟩⟩
theorem cut_less {aw : Option Addr} {H : Hp} {B B' : List Addr} (s : ∀ a ∈ B', a ∈ B) : Ext aw (cut H B) (cut H B') := ⟨fun a o _ h => by
  obtain ⟨h1, h2⟩ := cut_some h
  exact cut_of h1 fun z => h2 (s a z), fun _ _ kvs h => by
  obtain ⟨h1, h2⟩ := cut_some h
  exact ⟨kvs, cut_of h1 fun z => h2 (s _ z)⟩⟩
theorem cut_upd {H : Hp} {B : List Addr} {p : Addr} {o : HO} (h : p ∈ B) : cut (upd H p o) B = cut H B := by
  funext a
  unfold cut
  by_cases e : a ∈ B
  · rw [if_pos e, if_pos e]
  · rw [if_neg e, if_neg e, upd_ne fun z => e (by rw [z]; exact h)]

/-- the world: the dict w with the draws and the place -/
def WorldW (a : Addr) (H : Hp) : Prop := ∃ (ld : Addr) (n : Int) (ns : List Int), H a = some (.dK [(.inr "draws", .ref ld), (.inr "at", .int n)]) ∧ H ld = some (.lst (ns.map V.int)) ∧ 0 ≤ n ∧ ns.length ≤ 100000
def World (aw : Option Addr) (H : Hp) : Prop := ∀ a, aw = some a → WorldW a H
def NT (H : Hp) (aw : Option Addr) : Prop := ∀ a, aw = some a → ∃ kvs, H a = some (.dK kvs)
theorem World.ne {aw : Option Addr} {H : Hp} (h : World aw H) : NT H aw := fun a e => by
  obtain ⟨_, _, _, h, _⟩ := h a e
  exact ⟨_, h⟩
theorem World.ext {aw : Option Addr} {H H' : Hp} (h : World aw H) (e : Ext aw H H') (ha : ∀ a, aw = some a → H' a = H a) : World aw H' := fun a ea => by
  obtain ⟨ld, n, ns, h1, h2, h3⟩ := h a ea
  exact ⟨ld, n, ns, by rw [ha a ea]; exact h1, e.ap ld _ fx_lst h2, h3⟩
theorem NT.new {aw : Option Addr} {H : Hp} {p : Addr} (n : NT H aw) (hp : H p = none) : some p ≠ aw := fun z => by
  obtain ⟨kvs, h⟩ := n p z.symm
  rw [hp] at h; cases h
/-- the script: known to the object, or an object of the module -/
def ScL (K : PySem.W.Frag) (H : Hp) (a : Addr) (xs : List V) : Prop := (∃ o, H a = some (.frz o (.lst xs))) ∨
  ∃ (o : Obj) (its : Array Value) (n : Nat), K.lookup a = some o ∧ o.cls = .type "list" ∧ o.dict = none ∧ o.data = .seq its n ∧ its.size ≤ sizeLine ∧ Vals xs its.toList
theorem ScL.sq {K : PySem.W.Frag} {H : Hp} {a : Addr} {xs : List V} (h : ScL K H a xs) : SqL K H a xs := by
  rcases h with ⟨o, h⟩ | h
  · exact .inl (.inr ⟨o, h⟩)
  · exact .inr h
theorem ScL.ext {K : PySem.W.Frag} {aw : Option Addr} {H H' : Hp} {a : Addr} {xs : List V} (h : ScL K H a xs) (e : Ext aw H H') : ScL K H' a xs := by
  rcases h with ⟨o, h⟩ | h
  · exact .inl ⟨o, e.ap _ _ fx_frz h⟩
  · exact .inr h

/-! ### what a value is worth -/
mutual
inductive Rp (K : PySem.W.Frag) (aw : Option Addr) (H : Hp) : V → D → Prop
  | non : Rp K aw H .non .none
  | bl (b : Bool) : Rp K aw H (.bl b) (.bool b)
  | int (i : Int) : Rp K aw H (.int i) (.int i)
  | str (x : Str) : Rp K aw H (.str x) (.str x)
  | lst {a : Addr} {xs : List V} {ds : List D} : H a = some (.lst xs) → RpA K aw H xs ds → Rp K aw H (.ref a) (.list ds)
  | tup {a : Addr} {xs : List V} {ds : List D} : SqT K H a xs → RpA K aw H xs ds → Rp K aw H (.ref a) (.tuple ds)
  | wld {a : Addr} {kvs : List (Key × V)} : aw = some a → H a = some (.dK kvs) → Rp K aw H (.ref a) (.dict [])
  | scr {a : Addr} {ns : List Int} : ScL K H a (ns.map V.int) → Rp K aw H (.ref a) (.dict [(.none, .list (ns.map PyData.int))])
inductive RpA (K : PySem.W.Frag) (aw : Option Addr) (H : Hp) : List V → List D → Prop
  | nil : RpA K aw H [] []
  | cons {v : V} {vs : List V} {d : D} {ds : List D} : Rp K aw H v d → RpA K aw H vs ds → RpA K aw H (v :: vs) (d :: ds)
end
theorem sqT_ext {K : PySem.W.Frag} {aw : Option Addr} {H H' : Hp} {a : Addr} {xs : List V} (hw : NT H aw) (e : Ext aw H H') (h : SqT K H a xs) : SqT K H' a xs := by
  rcases h with (h | ⟨o, h⟩) | h
  · exact .inl (.inl (e.ap _ _ fx_tup h))
  · exact .inl (.inr ⟨o, e.ap _ _ fx_frz h⟩)
  · exact .inr h
mutual
theorem Rp.ext {K : PySem.W.Frag} {aw : Option Addr} {H H' : Hp} (hw : NT H aw) (e : Ext aw H H') : ∀ {v : V} {d : D}, Rp K aw H v d → Rp K aw H' v d
  | _, _, .non => .non
  | _, _, .bl b => .bl b
  | _, _, .int b => .int b
  | _, _, .str b => .str b
  | _, _, .lst h r => .lst (e.ap _ _ fx_lst h) (RpA.ext hw e r)
  | _, _, .tup h r => .tup (sqT_ext hw e h) (RpA.ext hw e r)
  | _, _, .wld ea h => .wld ea (e.dk _ ea _ h).choose_spec
  | _, _, .scr h => .scr (h.ext e)
theorem RpA.ext {K : PySem.W.Frag} {aw : Option Addr} {H H' : Hp} (hw : NT H aw) (e : Ext aw H H') : ∀ {v : List V} {d : List D}, RpA K aw H v d → RpA K aw H' v d
  | _, _, .nil => .nil
  | _, _, .cons h r => .cons (Rp.ext hw e h) (RpA.ext hw e r)
end
section
variable {K : PySem.W.Frag} {aw : Option Addr} {H : Hp}
theorem RpA.length : ∀ {vs : List V} {ds : List D}, RpA K aw H vs ds → vs.length = ds.length
  | _, _, .nil => rfl
  | _, _, .cons _ r => by simp [RpA.length r]
theorem RpA.get : ∀ {vs : List V} {ds : List D} {i : Nat} {d : D}, RpA K aw H vs ds → ds[i]? = some d → ∃ v, vs[i]? = some v ∧ Rp K aw H v d
  | _, _, _, _, .nil, e => by simp at e
  | _, _, 0, _, .cons h _, e => by simp at e; subst e; exact ⟨_, rfl, h⟩
  | _, _, i + 1, _, .cons _ r, e => by
    obtain ⟨v, e1, e2⟩ := RpA.get (i := i) r (by simpa using e)
    exact ⟨v, by simpa using e1, e2⟩
theorem RpA.get' : ∀ {vs : List V} {ds : List D} {i : Nat} {v : V}, RpA K aw H vs ds → vs[i]? = some v → ∃ d, ds[i]? = some d ∧ Rp K aw H v d
  | _, _, _, _, .nil, e => by simp at e
  | _, _, 0, _, .cons h _, e => by simp at e; subst e; exact ⟨_, rfl, h⟩
  | _, _, i + 1, _, .cons _ r, e => by
    obtain ⟨v, e1, e2⟩ := RpA.get' (i := i) r (by simpa using e)
    exact ⟨v, by simpa using e1, e2⟩
theorem RpA.app : ∀ {vs ws : List V} {ds es : List D}, RpA K aw H vs ds → RpA K aw H ws es → RpA K aw H (vs ++ ws) (ds ++ es)
  | _, _, _, _, .nil, s => s
  | _, _, _, _, .cons h r, s => .cons h (RpA.app r s)
theorem RpA.take : ∀ {vs : List V} {ds : List D} (n : Nat), RpA K aw H vs ds → RpA K aw H (vs.take n) (ds.take n)
  | _, _, 0, _ => .nil
  | _, _, _ + 1, .nil => .nil
  | _, _, n + 1, .cons h r => .cons h (RpA.take n r)
theorem RpA.drop : ∀ {vs : List V} {ds : List D} (n : Nat), RpA K aw H vs ds → RpA K aw H (vs.drop n) (ds.drop n)
  | _, _, 0, r => r
  | _, _, _ + 1, .nil => .nil
  | _, _, n + 1, .cons _ r => RpA.drop n r
/-- no world within -/
def flatD : D → Bool
  | .dict _ => false
  | .list ds => flatA ds
  | .tuple ds => flatA ds
  | _ => true
where flatA : List D → Bool
  | [] => true
  | d :: ds => flatD d && flatA ds
mutual
theorem Rp.dp : ∀ {v : V} {d : D}, Rp K aw H v d → flatD d = true → Dp K H v d
  | _, _, .non, _ => .non
  | _, _, .bl b, _ => .bl b
  | _, _, .int b, _ => .int b
  | _, _, .str b, _ => .str b
  | _, _, .lst h r, f => .lst (.inl (.inl h)) (RpA.dp r (by simpa [flatD] using f))
  | _, _, .tup h r, f => .tup h (RpA.dp r (by simpa [flatD] using f))
  | _, _, .wld _ _, f => by simp [flatD] at f
  | _, _, .scr _, f => by simp [flatD] at f
theorem RpA.dp : ∀ {v : List V} {d : List D}, RpA K aw H v d → flatD.flatA d = true → DpAll K H v d
  | _, _, .nil, _ => .nil
  | _, _, .cons h r, f => by
    simp [flatD.flatA] at f
    exact .cons (Rp.dp h f.1) (RpA.dp r f.2)
end
theorem dp_less {B : List Addr} {v : V} {d : D} (h : Dp K (cut H B) v d) : Dp K H v d := by
  have key : (∀ v d, Dp K (cut H B) v d → Dp K H v d) ∧ (∀ vs ds, DpAll K (cut H B) vs ds → DpAll K H vs ds) := by
    have hl : ∀ a xs, SqL K (cut H B) a xs → SqL K H a xs := fun a xs h => by
      rcases h with (h | ⟨o, h⟩) | h
      · exact .inl (.inl (cut_some h).1)
      · exact .inl (.inr ⟨o, (cut_some h).1⟩)
      · exact .inr h
    have ht : ∀ a xs, SqT K (cut H B) a xs → SqT K H a xs := fun a xs h => by
      rcases h with (h | ⟨o, h⟩) | h
      · exact .inl (.inl (cut_some h).1)
      · exact .inl (.inr ⟨o, (cut_some h).1⟩)
      · exact .inr h
    constructor
    · intro v d h
      exact Dp.rec (motive_1 := fun v d _ => Dp K H v d) (motive_2 := fun vs ds _ => DpAll K H vs ds) .non .bl .int .str (fun h _ r => .lst (hl _ _ h) r) (fun h _ r => .tup (ht _ _ h) r) .nil (fun _ _ a b => .cons a b) h
    · intro v d h
      exact DpAll.rec (motive_1 := fun v d _ => Dp K H v d) (motive_2 := fun vs ds _ => DpAll K H vs ds) .non .bl .int .str (fun h _ r => .lst (hl _ _ h) r) (fun h _ r => .tup (ht _ _ h) r) .nil (fun _ _ a b => .cons a b) h
  exact key.1 v d h
end
theorem sqT_less {K : PySem.W.Frag} {H : Hp} {B : List Addr} {a : Addr} {xs : List V} (h : SqT K (cut H B) a xs) : SqT K H a xs := by
  rcases h with (h | ⟨o, h⟩) | h
  · exact .inl (.inl (cut_some h).1)
  · exact .inl (.inr ⟨o, (cut_some h).1⟩)
  · exact .inr h

/-! ### a state -/
/-- what a def found at its entry: the heap, the own lists of its callers -/
structure Gh where
  H0 : Hp
  Bc : List Addr
def SlOk (K : PySem.W.Frag) (aw : Option Addr) (G : Gh) (H : Hp) (B : List Addr) (s : Option V) : Sl → Prop
  | .no => True
  | .va d => ∃ v, s = some v ∧ Rp K aw (cut H B) v d
  | .ow ds => ∃ p xs, s = some (.ref p) ∧ p ∈ B ∧ G.H0 p = none ∧ p ∉ G.Bc ∧ H p = some (.lst xs) ∧ RpA K aw (cut H B) xs ds
/-- own lists stand apart -/
def Apart (σ : L2.St) (ρ : En) : Prop := ∀ (i j : Nat) (p : Addr) (ds es : List D), ρ[i]? = some (Sl.ow ds) → ρ[j]? = some (Sl.ow es) → σ[i]? = some (some (V.ref p)) → σ[j]? = some (some (V.ref p)) → i = j
structure Ok (K : PySem.W.Frag) (aw : Option Addr) (G : Gh) (B : List Addr) (σ : L2.St) (ρ : En) (H : Hp) : Prop where
  ext : Ext aw G.H0 H
  wld : World aw (cut H B)
  sub : ∀ p ∈ G.Bc, p ∈ B
  own : ∀ p ∈ B, ∃ xs, H p = some (.lst xs)
  len : σ.length = ρ.length
  env : ∀ (i : Nat) (s : Sl), ρ[i]? = some s → SlOk K aw G H B (σ[i]?.getD none) s
  apart : Apart σ ρ
section
variable {K : PySem.W.Frag} {aw : Option Addr} {G : Gh} {B : List Addr} {σ : L2.St} {ρ : En} {H H' : Hp}
theorem Ok.awB (o : Ok K aw G B σ ρ H) : ∀ a, aw = some a → a ∉ B := fun a ea z => by
  obtain ⟨kvs, h⟩ := o.wld.ne a ea
  exact (cut_some h).2 z
theorem Ok.grow (o : Ok K aw G B σ ρ H) (e : Ext aw H H') (w : World aw (cut H' B)) : Ok K aw G B σ ρ H' where
  ext := o.ext.trans e
  wld := w
  sub := o.sub
  own := fun p hp => by
    obtain ⟨xs, h⟩ := o.own p hp
    exact ⟨xs, e.ap p _ fx_lst h⟩
  len := o.len
  env := fun i s hs => by
    have q := o.env i s hs
    have ec : Ext aw (cut H B) (cut H' B) := cut_ext e
    cases s with
    | no => trivial
    | va d => obtain ⟨v, e1, r⟩ := q; exact ⟨v, e1, r.ext o.wld.ne ec⟩
    | ow ds => obtain ⟨p, xs, e1, hp, h0, hc, hx, r⟩ := q; exact ⟨p, xs, e1, hp, h0, hc, e.ap p _ fx_lst hx, RpA.ext o.wld.ne ec r⟩
  apart := o.apart
theorem Ok.get (o : Ok K aw G B σ ρ H) {i : Nat} {d : D} (h : ρ[i]? = some (.va d)) : ∃ v, σ[i]? = some (some v) ∧ Rp K aw (cut H B) v d := by
  obtain ⟨v, e, r⟩ := o.env i _ h
  refine ⟨v, ?_, r⟩
  cases q : σ[i]? with
  | none => rw [q] at e; cases e
  | some s => rw [q] at e; exact congrArg some e
theorem Ok.getO (o : Ok K aw G B σ ρ H) {i : Nat} {ds : List D} (h : ρ[i]? = some (.ow ds)) : ∃ p xs, σ[i]? = some (some (.ref p)) ∧ p ∈ B ∧ G.H0 p = none ∧ p ∉ G.Bc ∧ H p = some (.lst xs) ∧ RpA K aw (cut H B) xs ds := by
  obtain ⟨p, xs, e, r⟩ := o.env i _ h
  refine ⟨p, xs, ?_, r⟩
  cases q : σ[i]? with
  | none => rw [q] at e; cases e
  | some s => rw [q] at e; exact congrArg some e
theorem set_ow {ρ : En} {i j : Nat} {d : Sl} {ds : List D} (hd : ∀ es, d ≠ .ow es) (h : (ρ.set i d)[j]? = some (Sl.ow ds)) : i ≠ j ∧ ρ[j]? = some (Sl.ow ds) := by
  by_cases e : i = j
  · subst e
    by_cases hi : i < ρ.length
    · rw [List.getElem?_set_self hi] at h; exact absurd (Option.some.inj h) (hd _)
    · rw [List.getElem?_eq_none (by simpa using hi)] at h; cases h
  · rw [List.getElem?_set_ne e] at h; exact ⟨e, h⟩
/-- a value into a slot -/
theorem Ok.set (o : Ok K aw G B σ ρ H) {v : V} {d : D} (r : Rp K aw (cut H B) v d) (i : Nat) : Ok K aw G B (σ.set i (some v)) (ρ.set i (.va d)) H where
  ext := o.ext
  wld := o.wld
  sub := o.sub
  own := o.own
  len := by simp [o.len]
  env := fun j s hs => by
    by_cases e : i = j
    · subst e
      by_cases hi : i < ρ.length
      · rw [List.getElem?_set_self hi] at hs
        cases hs
        rw [List.getElem?_set_self (by rw [o.len]; exact hi)]
        exact ⟨v, rfl, r⟩
      · rw [List.getElem?_eq_none (by simpa using hi)] at hs; cases hs
    · rw [List.getElem?_set_ne e] at hs
      rw [List.getElem?_set_ne e]
      exact o.env j s hs
  apart := fun j k p ds es h1 h2 h3 h4 => by
    obtain ⟨nj, h1⟩ := set_ow (fun _ z => by cases z) h1
    obtain ⟨nk, h2⟩ := set_ow (fun _ z => by cases z) h2
    rw [List.getElem?_set_ne nj] at h3
    rw [List.getElem?_set_ne nk] at h4
    exact o.apart j k p ds es h1 h2 h3 h4
end

/-! ### the readings -/
def tM (K : PySem.W.Frag) (aw : Option Addr) (m : En → M D) : TE := fun σ H R => ∃ G B ρ Q, Ok K aw G B σ ρ H ∧ m ρ Q ∧ ∀ v H' d, Ext aw H H' → World aw (cut H' B) → Rp K aw (cut H' B) v d → Q d → R v H'
def tT (K : PySem.W.Frag) (aw : Option Addr) (m : En → M Bool) : TT := fun σ H R => ∃ G B ρ Q, Ok K aw G B σ ρ H ∧ m ρ Q ∧ ∀ H' b, Ext aw H H' → World aw (cut H' B) → Q b → R b H'
def tA (K : PySem.W.Frag) (aw : Option Addr) (m : En → M (List D)) : TA := fun σ H R => ∃ G B ρ Q, Ok K aw G B σ ρ H ∧ m ρ Q ∧ ∀ vs H' ds, Ext aw H H' → World aw (cut H' B) → RpA K aw (cut H' B) vs ds → Q ds → R vs H'
abbrev SE (X : Cx) (aw : Option Addr) (e : Expr) (m : En → M D) : Prop := PE X e (tM X.K aw m)
abbrev ST (X : Cx) (aw : Option Addr) (e : Expr) (m : En → M Bool) : Prop := PT X e (tT X.K aw m)
abbrev SA (X : Cx) (aw : Option Addr) (es : List Expr) (m : En → M (List D)) : Prop := PA X es (tA X.K aw m)
theorem pe_to {X : Cx} {e : Expr} {t t' : TE} (h : PE X e t) (i : ∀ σ H R, t' σ H R → t σ H R) : PE X e t' := ⟨fun pins s σ H Q I q => h.run pins s σ H Q I (i σ H Q q)⟩
theorem pt_to {X : Cx} {e : Expr} {t t' : TT} (h : PT X e t) (i : ∀ σ H R, t' σ H R → t σ H R) : PT X e t' := ⟨fun pins s σ H Q I q => h.run pins s σ H Q I (i σ H Q q)⟩
theorem pw_to {X : Cx} {e : Expr} {t t' : TT} (h : PW X e t) (i : ∀ σ H R, t' σ H R → t σ H R) : PW X e t' := ⟨fun wh pins s σ H Q I q => h.run wh pins s σ H Q I (i σ H Q q)⟩
theorem pa_to {X : Cx} {e : List Expr} {t t' : TA} (h : PA X e t) (i : ∀ σ H R, t' σ H R → t σ H R) : PA X e t' := ⟨fun pos pins s σ H Q I q => h.run pos pins s σ H Q I (i σ H Q q)⟩
theorem ps_to {X : Cx} {e : Stmt} {t t' : TS} (h : PS X e t) (i : ∀ D σ H, t' D σ H → t D σ H) : PS X e t' := ⟨fun pins s σ H D I q => h.run pins s σ H D I (i D σ H q)⟩
theorem pss_to {X : Cx} {e : List Stmt} {t t' : TS} (h : PSs X e t) (i : ∀ D σ H, t' D σ H → t D σ H) : PSs X e t' := ⟨fun pins s σ H D I q => h.run pins s σ H D I (i D σ H q)⟩

/-! ### expressions -/
def eVar (i : Nat) : En → M D := fun ρ Q => match ρ[i]? with
  | some (.va d) => Q d
  | _ => False
def eC (d : D) : En → M D := fun _ Q => Q d
section
variable {X : Cx} {aw : Option Addr} {a b : Expr} {m n : En → M D} {pos : Pos}
theorem se_var {i : Nat} {x : Str} (h : PE X (.Name x pos) (tVar i)) : SE X aw (.Name x pos) (eVar i) := pe_to h fun σ H R => by
  rintro ⟨G, B, ρ, Q, o, hm, k⟩
  unfold eVar at hm
  split at hm
  · rename_i d hd
    obtain ⟨v, e, r⟩ := o.get hd
    exact ⟨v, e, k v H d (.refl _ _) o.wld r hm⟩
  · cases hm
theorem se_c {e : Expr} {v : V} {d : D} (h : PE X e (tC v)) (r : ∀ H, Rp X.K aw H v d) : SE X aw e (eC d) := pe_to h fun σ H R => by
  rintro ⟨G, B, ρ, Q, o, hm, k⟩
  exact k v H d (.refl _ _) o.wld (r _) hm
theorem se_int {i : Int} {j} : SE X aw (.Constant (.int i) j pos) (eC (.int i)) := se_c pe_int fun _ => .int _
theorem se_bl {i : Bool} {j} : SE X aw (.Constant (.bool i) j pos) (eC (.bool i)) := se_c pe_bl fun _ => .bl _
theorem se_non {j} : SE X aw (.Constant .none j pos) (eC .none) := se_c pe_non fun _ => .non
theorem se_str {i : Str} {j} : SE X aw (.Constant (.str i) j pos) (eC (.str i)) := se_c pe_str fun _ => .str _

/-- what an operation makes of two data -/
def eOp (f : D → D → M D) (m n : En → M D) : En → M D := fun ρ Q => m ρ fun x => n ρ fun y => f x y Q
/-- an operator's reading serves a plain one -/
def OpOk (K : PySem.W.Frag) (aw : Option Addr) (r : R2) (f : D → D → M D) : Prop := ∀ (H : Hp) (B : List Addr) (x y : V) (d e : D) (Q : D → Prop) (R : VK), World aw (cut H B) → (∀ p ∈ B, ∃ xs, H p = some (.lst xs)) → Rp K aw (cut H B) x d → Rp K aw (cut H B) y e → f d e Q →
  (∀ v H' z, Ext aw H H' → World aw (cut H' B) → Rp K aw (cut H' B) v z → Q z → R v H') → r x y H R
theorem op_reads {K : PySem.W.Frag} {r : R2} {f : D → D → M D} (h : OpOk K aw r f) : ∀ σ H R, tM K aw (eOp f m n) σ H R → tOp r (tM K aw m) (tM K aw n) σ H R := fun σ H R => by
  rintro ⟨G, B, ρ, Q, o, hm, k⟩
  refine ⟨G, B, ρ, _, o, hm, fun x H1 d e1 w1 r1 q1 => ?_⟩
  have o1 := o.grow e1 w1
  refine ⟨G, B, ρ, _, o1, q1, fun y H2 e e2 w2 r2 q2 => ?_⟩
  have o2 := o1.grow e2 w2
  exact h H2 B x y d e Q R w2 o2.own (r1.ext w1.ne (cut_ext e2)) r2 q2 fun v H' z e3 w3 r3 q3 => k v H' z (e1.trans (e2.trans e3)) w3 r3 q3
theorem se_op {op : Operator} {r : R2} {f : D → D → M D} (ho : OpR X (binaryOp op) r) (h : OpOk X.K aw r f) (ha : SE X aw a m) (hb : SE X aw b n) : SE X aw (.BinOp a op b pos) (eOp f m n) := pe_to (pe_op ho ha hb) (op_reads h)
theorem se_cmp {op : CmpOp} {r : R2} {f : D → D → M D} (ho : OpR X (compareOp op) r) (h : OpOk X.K aw r f) (ha : SE X aw a m) (hb : SE X aw b n) (hm : behindInMarks op b = false) : SE X aw (.Compare a [op] [b] pos) (eOp f m n) := pe_to (pe_cmpR ho ha hb hm) (op_reads h)
end


/-! ### plain operations -/
def fI (C : Int → Int → Prop) (g : Int → Int → D) : D → D → M D := fun x y Q => match x, y with
  | .int i, .int j => C i j ∧ Q (g i j)
  | _, _ => False
def fAdd := fI (fun _ _ => True) fun i j => .int (i + j)
def fSub := fI (fun _ _ => True) fun i j => .int (i - j)
def fMul := fI CMulW fun i j => .int (i * j)
def CDv (_ j : Int) : Prop := j ≠ 0 ∧ j.natAbs.log2 < 9000
def fDiv := fI CDv fun i j => .int (i.fdiv j)
def fMod := fI (fun _ j => j ≠ 0) fun i j => .int (i.fmod j)
def fLt := fI (fun _ _ => True) fun i j => .bool (decide (i < j))
def fLe := fI (fun _ _ => True) fun i j => .bool (decide (i ≤ j))
def fGt := fI (fun _ _ => True) fun i j => .bool (decide (j < i))
def fGe := fI (fun _ _ => True) fun i j => .bool (decide (j ≤ i))
def fPow := fI CPow fun i j => .int (i ^ j.toNat)
def okD (d : D) : Prop := flatD d = true ∧ SeqAt.shaped d = true
def fEq : D → D → M D := fun x y Q => okD x ∧ okD y ∧ Q (.bool (PyData.eqv x y))
def fNe : D → D → M D := fun x y Q => okD x ∧ okD y ∧ Q (.bool (!PyData.eqv x y))
def fIn : D → D → M D := fun x y Q => match y with
  | .list ds => okD x ∧ okD (.list ds) ∧ Q (.bool (ds.any fun z => PyData.eqv z x))
  | _ => False
def fNotIn : D → D → M D := fun x y Q => match y with
  | .list ds => okD x ∧ okD (.list ds) ∧ Q (.bool (!ds.any fun z => PyData.eqv z x))
  | _ => False
def fIsN : D → D → M D := fun x y Q => y = .none ∧ match x with
  | .none => Q (.bool true)
  | .dict _ => False
  | _ => Q (.bool false)
def fNotN : D → D → M D := fun x y Q => y = .none ∧ match x with
  | .none => Q (.bool false)
  | .dict _ => False
  | _ => Q (.bool true)
def fIsB : D → D → M D := fun x y Q => match x, y with
  | .bool a, .bool b => Q (.bool (decide (a = b)))
  | _, _ => False
def fNotB : D → D → M D := fun x y Q => match x, y with
  | .bool a, .bool b => Q (.bool (!decide (a = b)))
  | _, _ => False
def fCatL : D → D → M D := fun x y Q => match x, y with
  | .list a, .list b => a.length + b.length ≤ 100000 ∧ Q (.list (a ++ b))
  | _, _ => False
def fCatS : D → D → M D := fun x y Q => match x, y with
  | .str a, .str b => a.length + b.length ≤ 100000 ∧ Q (.str (a ++ b))
  | _, _ => False
/-- an item, from the end too -/
def fIx : D → D → M D := fun x y Q => match x, y with
  | .list ds, .int i => match atI ds i with
    | some d => Q d
    | none => False
  | .tuple ds, .int i => match atI ds i with
    | some d => Q d
    | none => False
  | .dict [(.none, .list ds)], .int i => match atI ds i with
    | some d => Q d
    | none => False
  | _, _ => False

theorem le_line {n : Nat} (h : n ≤ 100000) : n ≤ sizeLine := Nat.le_trans h (by decide)
theorem lt_line {n : Nat} (h : n < 100000) : n < sizeLine := Nat.lt_of_lt_of_le h (by decide)

section
variable {X : Cx} {K : PySem.W.Frag} {aw : Option Addr}
theorem ok_rI {C C' : Int → Int → Prop} {g : Int → Int → V} {g' : Int → Int → D} (hc : ∀ i j, C' i j → C i j) (hg : ∀ i j, Rp K aw (fun _ => none) (g i j) (g' i j)) (hf : ∀ i j H, Rp K aw H (g i j) (g' i j)) : OpOk K aw (rI C g) (fI C' g') := by
  intro H B x y d e Q R w _ rx ry q k
  unfold fI at q
  split at q
  · rename_i i j
    cases rx
    cases ry
    exact ⟨i, j, rfl, rfl, hc i j q.1, k _ H _ (.refl _ _) w (hf i j _) q.2⟩
  · cases q
theorem ok_rI0 {g : Int → Int → V} {g' : Int → Int → D} (hf : ∀ i j H, Rp K aw H (g i j) (g' i j)) : OpOk K aw (rI0 g) (fI (fun _ _ => True) g') := by
  intro H B x y d e Q R w _ rx ry q k
  unfold fI at q
  split at q
  · rename_i i j
    cases rx
    cases ry
    exact ⟨i, j, rfl, rfl, k _ H _ (.refl _ _) w (hf i j _) q.2⟩
  · cases q
theorem ok_add : OpOk K aw (rI0 fun i j => .int (i + j)) fAdd := ok_rI0 fun _ _ _ => .int _
theorem ok_sub : OpOk K aw (rI0 fun i j => .int (i - j)) fSub := ok_rI0 fun _ _ _ => .int _
theorem ok_mul : OpOk K aw (rI CMulW fun i j => .int (i * j)) fMul := ok_rI (fun _ _ h => h) (fun _ _ => .int _) fun _ _ _ => .int _
theorem op_divW : OpR X (binaryOp .FloorDiv) (rI CDv fun i j => .int (i.fdiv j)) := opI fun _ _ _ _ _ _ _ hc q => floordiv_int hc.1 q (.inl (PyProof.noPylong_of_log2 hc.2))
theorem ok_div : OpOk K aw (rI CDv fun i j => .int (i.fdiv j)) fDiv := ok_rI (fun _ _ h => h) (fun _ _ => .int _) fun _ _ _ => .int _
theorem ok_mod : OpOk K aw (rI (fun _ j => j ≠ 0) fun i j => .int (i.fmod j)) fMod := ok_rI (fun _ _ h => h) (fun _ _ => .int _) fun _ _ _ => .int _
theorem ok_pow : OpOk K aw (rI CPow fun i j => .int (i ^ j.toNat)) fPow := ok_rI (fun _ _ h => h) (fun _ _ => .int _) fun _ _ _ => .int _
theorem ok_lt : OpOk K aw (rI0 fun i j => .bl (decide (i < j))) fLt := ok_rI0 fun _ _ _ => .bl _
theorem ok_le : OpOk K aw (rI0 fun i j => .bl (decide (i ≤ j))) fLe := ok_rI0 fun _ _ _ => .bl _
theorem ok_gt : OpOk K aw (rI0 fun i j => .bl (decide (j < i))) fGt := ok_rI0 fun _ _ _ => .bl _
theorem ok_ge : OpOk K aw (rI0 fun i j => .bl (decide (j ≤ i))) fGe := ok_rI0 fun _ _ _ => .bl _
theorem ok_eq : OpOk K aw (rEqD K) fEq := by
  intro H B x y d e Q R w _ rx ry q k
  exact ⟨d, e, dp_less (rx.dp q.1.1), dp_less (ry.dp q.2.1.1), q.1.2, q.2.1.2, k _ H _ (.refl _ _) w (.bl _) q.2.2⟩
theorem ok_ne : OpOk K aw (rNeD K) fNe := by
  intro H B x y d e Q R w _ rx ry q k
  exact ⟨d, e, dp_less (rx.dp q.1.1), dp_less (ry.dp q.2.1.1), q.1.2, q.2.1.2, k _ H _ (.refl _ _) w (.bl _) q.2.2⟩
theorem ok_in : OpOk K aw (rInD K) fIn := by
  intro H B x y d e Q R w _ rx ry q k
  unfold fIn at q
  split at q
  · rename_i ds
    exact ⟨d, ds, dp_less (rx.dp q.1.1), dp_less (ry.dp q.2.1.1), q.1.2, q.2.1.2, k _ H _ (.refl _ _) w (.bl _) q.2.2⟩
  · cases q
theorem ok_notIn : OpOk K aw (rNotInD K) fNotIn := by
  intro H B x y d e Q R w _ rx ry q k
  unfold fNotIn at q
  split at q
  · rename_i ds
    exact ⟨d, ds, dp_less (rx.dp q.1.1), dp_less (ry.dp q.2.1.1), q.1.2, q.2.1.2, k _ H _ (.refl _ _) w (.bl _) q.2.2⟩
  · cases q
theorem ok_isN : OpOk K aw (fun x y H Q => y = .non ∧ Q (.bl (decide (x = .non))) H) fIsN := by
  intro H B x y d e Q R w _ rx ry q k
  obtain ⟨rfl, q⟩ := q
  cases ry
  refine ⟨rfl, ?_⟩
  have fin : ∀ b : Bool, Q (.bool b) → R (.bl b) H := fun b h => k _ H _ (.refl _ _) w (.bl _) h
  cases rx <;> first | exact fin _ q | exact q.elim
theorem ok_notN : OpOk K aw (fun x y H Q => y = .non ∧ Q (.bl (!decide (x = .non))) H) fNotN := by
  intro H B x y d e Q R w _ rx ry q k
  obtain ⟨rfl, q⟩ := q
  cases ry
  refine ⟨rfl, ?_⟩
  have fin : ∀ b : Bool, Q (.bool b) → R (.bl b) H := fun b h => k _ H _ (.refl _ _) w (.bl _) h
  cases rx <;> first | exact fin _ q | exact q.elim
theorem ok_isB : OpOk K aw rIsB fIsB := by
  intro H B x y d e Q R w _ rx ry q k
  unfold fIsB at q
  split at q
  · cases rx
    cases ry
    exact ⟨_, _, rfl, rfl, k _ H _ (.refl _ _) w (.bl _) q⟩
  · cases q
theorem ok_notB : OpOk K aw rNotB fNotB := by
  intro H B x y d e Q R w _ rx ry q k
  unfold fNotB at q
  split at q
  · cases rx
    cases ry
    exact ⟨_, _, rfl, rfl, k _ H _ (.refl _ _) w (.bl _) q⟩
  · cases q
theorem new_cut {H : Hp} {B : List Addr} {p : Addr} {o : HO} (hp : H p = none) (hB : ∀ q ∈ B, ∃ xs, H q = some (.lst xs)) : cut (upd H p o) B p = some o := cut_of upd_same fun z => by
  obtain ⟨xs, h⟩ := hB p z
  rw [hp] at h; cases h
/-- behind a new object -/
theorem World.fresh {H : Hp} {B : List Addr} {p : Addr} {o : HO} (w : World aw (cut H B)) (hp : H p = none) : World aw (cut (upd H p o) B) := by
  refine w.ext (cut_ext (.new hp)) ?_
  intro a ea
  obtain ⟨kvs, h⟩ := w.ne a ea
  obtain ⟨h1, h2⟩ := cut_some h
  unfold cut
  rw [if_neg h2, if_neg h2, upd_ne (ne_of_none h1 hp)]
theorem rp_new {H : Hp} {B : List Addr} {p : Addr} {o : HO} {v : V} {d : D} (w : World aw (cut H B)) (hp : H p = none) (r : Rp K aw (cut H B) v d) : Rp K aw (cut (upd H p o) B) v d := r.ext w.ne (cut_ext (.new hp))
theorem rpA_new {H : Hp} {B : List Addr} {p : Addr} {o : HO} {v : List V} {d : List D} (w : World aw (cut H B)) (hp : H p = none) (r : RpA K aw (cut H B) v d) : RpA K aw (cut (upd H p o) B) v d := r.ext w.ne (cut_ext (.new hp))
theorem ok_catL : OpOk K aw rCat fCatL := by
  intro H B x y d e Q R w hB rx ry q k
  unfold fCatL at q
  split at q
  · rename_i a b
    cases rx with
    | lst h1 r1 =>
    cases ry with
    | lst h2 r2 =>
    refine ⟨_, _, _, _, rfl, rfl, (cut_some h1).1, (cut_some h2).1, by rw [r1.length, r2.length]; exact le_line q.1, fun p hp => ?_⟩
    exact k _ _ _ (.new hp) (w.fresh hp) (.lst (new_cut hp hB) (rpA_new w hp (r1.app r2))) q.2
  · cases q
theorem ok_catS : OpOk K aw (fun x y H Q => ∃ i j, x = .str i ∧ y = .str j ∧ i.length + j.length ≤ sizeLine ∧ Q (.str (i ++ j)) H) fCatS := by
  intro H B x y d e Q R w hB rx ry q k
  unfold fCatS at q
  split at q
  · cases rx
    cases ry
    exact ⟨_, _, rfl, rfl, le_line q.1, k _ H _ (.refl _ _) w (.str _) q.2⟩
  · cases q
theorem RpA.atI {H : Hp} {xs : List V} {ds : List D} {i : Int} {d : D} (r : RpA K aw H xs ds) (h : L2.atI ds i = some d) : ∃ v, L2.atI xs i = some v ∧ Rp K aw H v d := by
  unfold L2.atI at h ⊢
  rw [r.length]
  cases e : ixN ds.length i with
  | none => rw [e] at h; cases h
  | some j =>
    rw [e] at h
    obtain ⟨v, e1, e2⟩ := r.get (show ds[j]? = some d from h)
    exact ⟨v, e1, e2⟩
theorem ScL.less {H : Hp} {B : List Addr} {a : Addr} {xs : List V} (h : ScL K (cut H B) a xs) : ScL K H a xs := by
  rcases h with ⟨o, h⟩ | h
  · exact .inl ⟨o, (cut_some h).1⟩
  · exact .inr h
theorem rpA_ints {H : Hp} : ∀ ns : List Int, RpA K aw H (ns.map V.int) (ns.map PyData.int)
  | [] => .nil
  | n :: ns => .cons (.int n) (rpA_ints ns)
theorem ok_ix : OpOk K aw (rIx K) fIx := by
  intro H B x y d e Q R w hB rx ry q k
  unfold fIx at q
  split at q
  · split at q
    · rename_i d' hd
      cases rx with
      | lst h1 r1 =>
      cases ry
      obtain ⟨v, e1, e2⟩ := r1.atI hd
      exact .inl ⟨_, _, _, v, rfl, rfl, .inl (.inl (cut_some h1).1), e1, k _ H _ (.refl _ _) w e2 q⟩
    · cases q
  · split at q
    · rename_i d' hd
      cases rx with
      | tup h1 r1 =>
      cases ry
      obtain ⟨v, e1, e2⟩ := r1.atI hd
      exact .inr (.inl ⟨_, _, _, v, rfl, rfl, sqT_less h1, e1, k _ H _ (.refl _ _) w e2 q⟩)
    · cases q
  · split at q
    · rename_i d' hd
      cases rx with
      | scr h1 =>
      cases ry
      obtain ⟨v, e1, e2⟩ := (rpA_ints _).atI hd
      exact .inl ⟨_, _, _, v, rfl, rfl, (h1.less).sq, e1, k _ H _ (.refl _ _) w e2 q⟩
    · cases q
  · cases q
end

/-! ### short forms for derivations -/
section
variable {X : Cx} {aw : Option Addr} {a b c : Expr} {m n l : En → M D} {pos : Pos}
theorem se_add (ha : SE X aw a m) (hb : SE X aw b n) : SE X aw (.BinOp a .Add b pos) (eOp fAdd m n) := se_op op_add ok_add ha hb
theorem se_sub (ha : SE X aw a m) (hb : SE X aw b n) : SE X aw (.BinOp a .Sub b pos) (eOp fSub m n) := se_op op_sub ok_sub ha hb
theorem se_mul (ha : SE X aw a m) (hb : SE X aw b n) : SE X aw (.BinOp a .Mult b pos) (eOp fMul m n) := se_op op_mulW ok_mul ha hb
theorem se_div (ha : SE X aw a m) (hb : SE X aw b n) : SE X aw (.BinOp a .FloorDiv b pos) (eOp fDiv m n) := se_op op_divW ok_div ha hb
theorem se_mod (ha : SE X aw a m) (hb : SE X aw b n) : SE X aw (.BinOp a .Mod b pos) (eOp fMod m n) := se_op op_modN ok_mod ha hb
theorem se_pow (ha : SE X aw a m) (hb : SE X aw b n) : SE X aw (.BinOp a .Pow b pos) (eOp fPow m n) := se_op op_pow ok_pow ha hb
theorem se_catL (ha : SE X aw a m) (hb : SE X aw b n) : SE X aw (.BinOp a .Add b pos) (eOp fCatL m n) := se_op op_cat ok_catL ha hb
theorem se_catS (ha : SE X aw a m) (hb : SE X aw b n) : SE X aw (.BinOp a .Add b pos) (eOp fCatS m n) := se_op op_add_str ok_catS ha hb
theorem se_lt (ha : SE X aw a m) (hb : SE X aw b n) : SE X aw (.Compare a [.Lt] [b] pos) (eOp fLt m n) := se_cmp op_lt ok_lt ha hb (nobehind b (by decide) (by decide))
theorem se_le (ha : SE X aw a m) (hb : SE X aw b n) : SE X aw (.Compare a [.LtE] [b] pos) (eOp fLe m n) := se_cmp op_le ok_le ha hb (nobehind b (by decide) (by decide))
theorem se_gt (ha : SE X aw a m) (hb : SE X aw b n) : SE X aw (.Compare a [.Gt] [b] pos) (eOp fGt m n) := se_cmp op_gt ok_gt ha hb (nobehind b (by decide) (by decide))
theorem se_ge (ha : SE X aw a m) (hb : SE X aw b n) : SE X aw (.Compare a [.GtE] [b] pos) (eOp fGe m n) := se_cmp op_ge ok_ge ha hb (nobehind b (by decide) (by decide))
theorem se_isN (ha : SE X aw a m) (hb : SE X aw b n) : SE X aw (.Compare a [.Is] [b] pos) (eOp fIsN m n) := se_cmp op_isN ok_isN ha hb (nobehind b (by decide) (by decide))
theorem se_notN (ha : SE X aw a m) (hb : SE X aw b n) : SE X aw (.Compare a [.IsNot] [b] pos) (eOp fNotN m n) := se_cmp op_notN ok_notN ha hb (nobehind b (by decide) (by decide))
theorem se_isB (ha : SE X aw a m) (hb : SE X aw b n) : SE X aw (.Compare a [.Is] [b] pos) (eOp fIsB m n) := se_cmp op_isBl ok_isB ha hb (nobehind b (by decide) (by decide))
theorem se_notB (ha : SE X aw a m) (hb : SE X aw b n) : SE X aw (.Compare a [.IsNot] [b] pos) (eOp fNotB m n) := se_cmp op_notBl ok_notB ha hb (nobehind b (by decide) (by decide))
theorem room64 {k : Nat} {A : Around} (r : Room k A) : A.units + 64 < cLine := by have := r.un; omega
theorem room65 {k : Nat} {A : Around} (r : Room k A) : A.units + 65 < cLine := by have := r.un; omega
theorem se_eq {k : Nat} (hr : Room k X.A) (ha : SE X aw a m) (hb : SE X aw b n) : SE X aw (.Compare a [.Eq] [b] pos) (eOp fEq m n) := se_cmp (op_eqD (room64 hr)) ok_eq ha hb (nobehind b (by decide) (by decide))
theorem se_ne {k : Nat} (hr : Room k X.A) (ha : SE X aw a m) (hb : SE X aw b n) : SE X aw (.Compare a [.NotEq] [b] pos) (eOp fNe m n) := se_cmp (op_neD (room64 hr)) ok_ne ha hb (nobehind b (by decide) (by decide))
end


/-! ### tests -/
def eT (m : En → M D) : En → M Bool := fun ρ Q => m ρ fun d => match d with
  | .bool b => Q b
  | _ => False
def mAnd (t u : En → M Bool) : En → M Bool := fun ρ Q => t ρ fun b => if b = true then u ρ Q else Q false
def mOr (t u : En → M Bool) : En → M Bool := fun ρ Q => t ρ fun b => if b = true then Q true else u ρ Q
def mNot (t : En → M Bool) : En → M Bool := fun ρ Q => t ρ fun b => Q (!b)
def eAnd (m n : En → M D) : En → M D := fun ρ Q => m ρ fun d => match d with
  | .bool b => if b = true then n ρ Q else Q (.bool false)
  | _ => False
def eOr (m n : En → M D) : En → M D := fun ρ Q => m ρ fun d => match d with
  | .bool b => if b = true then Q (.bool true) else n ρ Q
  | _ => False
def eNot (m : En → M D) : En → M D := fun ρ Q => m ρ fun d => match d with
  | .bool b => Q (.bool (!b))
  | _ => False
def eIf (t : En → M Bool) (m n : En → M D) : En → M D := fun ρ Q => t ρ fun b => if b = true then m ρ Q else n ρ Q
section
variable {X : Cx} {aw : Option Addr} {a b c : Expr} {m n l : En → M D} {t u : En → M Bool} {pos : Pos} {rest : List Expr}
theorem st_of {te : TE} (hi : ∀ σ H R, tM X.K aw m σ H R → te σ H R) (h : PT X a (tB te)) : ST X aw a (eT m) := pt_to h fun σ H R => by
  rintro ⟨G, B, ρ, Q, o, hm, k⟩
  refine hi σ H _ ⟨G, B, ρ, _, o, hm, fun v H' d e w r q => ?_⟩
  cases d with
  | bool bb => cases r; exact ⟨bb, rfl, k H' bb e w q⟩
  | _ => cases q
theorem st_val (h : SE X aw a m) (he : ∀ whole, isTrue a X.env whole = (do let v ← whole; standAt a.pos; holding [v] (truthy v)) := by intro _; rfl) : ST X aw a (eT m) := st_of (fun _ _ _ h => h) (pt_val h he)
theorem st_op {op : CmpOp} {r : R2} {f : D → D → M D} (ho : OpR X (compareOp op) r) (h : OpOk X.K aw r f) (ha : SE X aw a m) (hb : SE X aw b n) (hm : behindInMarks op b = false) : ST X aw (.Compare a [op] [b] pos) (eT (eOp f m n)) :=
  st_of (op_reads h) (pt_cmpR ho ha hb hm)
theorem st_lt (ha : SE X aw a m) (hb : SE X aw b n) : ST X aw (.Compare a [.Lt] [b] pos) (eT (eOp fLt m n)) := st_op op_lt ok_lt ha hb (nobehind b (by decide) (by decide))
theorem st_le (ha : SE X aw a m) (hb : SE X aw b n) : ST X aw (.Compare a [.LtE] [b] pos) (eT (eOp fLe m n)) := st_op op_le ok_le ha hb (nobehind b (by decide) (by decide))
theorem st_gt (ha : SE X aw a m) (hb : SE X aw b n) : ST X aw (.Compare a [.Gt] [b] pos) (eT (eOp fGt m n)) := st_op op_gt ok_gt ha hb (nobehind b (by decide) (by decide))
theorem st_ge (ha : SE X aw a m) (hb : SE X aw b n) : ST X aw (.Compare a [.GtE] [b] pos) (eT (eOp fGe m n)) := st_op op_ge ok_ge ha hb (nobehind b (by decide) (by decide))
theorem st_isN (ha : SE X aw a m) (hb : SE X aw b n) : ST X aw (.Compare a [.Is] [b] pos) (eT (eOp fIsN m n)) := st_op op_isN ok_isN ha hb (nobehind b (by decide) (by decide))
theorem st_notN (ha : SE X aw a m) (hb : SE X aw b n) : ST X aw (.Compare a [.IsNot] [b] pos) (eT (eOp fNotN m n)) := st_op op_notN ok_notN ha hb (nobehind b (by decide) (by decide))
theorem st_isB (ha : SE X aw a m) (hb : SE X aw b n) : ST X aw (.Compare a [.Is] [b] pos) (eT (eOp fIsB m n)) := st_op op_isBl ok_isB ha hb (nobehind b (by decide) (by decide))
theorem st_notB (ha : SE X aw a m) (hb : SE X aw b n) : ST X aw (.Compare a [.IsNot] [b] pos) (eT (eOp fNotB m n)) := st_op op_notBl ok_notB ha hb (nobehind b (by decide) (by decide))
theorem st_eq {k : Nat} (hr : Room k X.A) (ha : SE X aw a m) (hb : SE X aw b n) : ST X aw (.Compare a [.Eq] [b] pos) (eT (eOp fEq m n)) := st_op (op_eqD (room64 hr)) ok_eq ha hb (nobehind b (by decide) (by decide))
theorem st_ne {k : Nat} (hr : Room k X.A) (ha : SE X aw a m) (hb : SE X aw b n) : ST X aw (.Compare a [.NotEq] [b] pos) (eT (eOp fNe m n)) := st_op (op_neD (room64 hr)) ok_ne ha hb (nobehind b (by decide) (by decide))
theorem se_in {k : Nat} (hr : Room k X.A) (ha : SE X aw a m) (hb : SE X aw b n) (hm : behindInMarks .In b = false := by with_unfolding_all rfl) : SE X aw (.Compare a [.In] [b] pos) (eOp fIn m n) := se_cmp (op_inD (room65 hr)) ok_in ha hb hm
theorem se_notIn {k : Nat} (hr : Room k X.A) (ha : SE X aw a m) (hb : SE X aw b n) (hm : behindInMarks .NotIn b = false := by with_unfolding_all rfl) : SE X aw (.Compare a [.NotIn] [b] pos) (eOp fNotIn m n) := se_cmp (op_notInD (room65 hr)) ok_notIn ha hb hm
theorem st_in {k : Nat} (hr : Room k X.A) (ha : SE X aw a m) (hb : SE X aw b n) (hm : behindInMarks .In b = false := by with_unfolding_all rfl) : ST X aw (.Compare a [.In] [b] pos) (eT (eOp fIn m n)) := st_op (op_inD (room65 hr)) ok_in ha hb hm
theorem st_notIn {k : Nat} (hr : Room k X.A) (ha : SE X aw a m) (hb : SE X aw b n) (hm : behindInMarks .NotIn b = false := by with_unfolding_all rfl) : ST X aw (.Compare a [.NotIn] [b] pos) (eT (eOp fNotIn m n)) := st_op (op_notInD (room65 hr)) ok_notIn ha hb hm
theorem and_reads : ∀ σ H R, tT X.K aw (mAnd t u) σ H R → tAnd (tT X.K aw t) (tT X.K aw u) σ H R := fun σ H R => by
  rintro ⟨G, B, ρ, Q, o, hm, k⟩
  refine ⟨G, B, ρ, _, o, hm, fun H1 bb e1 w1 q1 => ?_⟩
  cases bb with
  | true => exact ⟨G, B, ρ, Q, o.grow e1 w1, q1, fun H' b e w q => k H' b (e1.trans e) w q⟩
  | false => exact k H1 false e1 w1 q1
theorem or_reads : ∀ σ H R, tT X.K aw (mOr t u) σ H R → tOr (tT X.K aw t) (tT X.K aw u) σ H R := fun σ H R => by
  rintro ⟨G, B, ρ, Q, o, hm, k⟩
  refine ⟨G, B, ρ, _, o, hm, fun H1 bb e1 w1 q1 => ?_⟩
  cases bb with
  | false => exact ⟨G, B, ρ, Q, o.grow e1 w1, q1, fun H' b e w q => k H' b (e1.trans e) w q⟩
  | true => exact k H1 true e1 w1 q1
/-- a test made of and, or -/
abbrev SW (X : Cx) (aw : Option Addr) (e : Expr) (m : En → M Bool) : Prop := PW X e (tT X.K aw m)
theorem sw_and1 (ha : ST X aw a t) : SW X aw (.BoolOp .And [a] pos) t := pw_and1 ha
theorem sw_or1 (ha : ST X aw a t) : SW X aw (.BoolOp .Or [a] pos) t := pw_or1 ha
theorem sw_and (ha : ST X aw a t) (hb : SW X aw (.BoolOp .And (b :: rest) pos) u) : SW X aw (.BoolOp .And (a :: b :: rest) pos) (mAnd t u) := pw_to (pw_and ha hb) and_reads
theorem sw_or (ha : ST X aw a t) (hb : SW X aw (.BoolOp .Or (b :: rest) pos) u) : SW X aw (.BoolOp .Or (a :: b :: rest) pos) (mOr t u) := pw_to (pw_or ha hb) or_reads
theorem st_w (h : SW X aw a t) : ST X aw a t := h.pt
theorem st_not (h : ST X aw a t) : ST X aw (.UnaryOp .Not a pos) (mNot t) := pt_to (pt_not h) fun σ H R => by
  rintro ⟨G, B, ρ, Q, o, hm, k⟩
  exact ⟨G, B, ρ, _, o, hm, fun H1 bb e1 w1 q1 => k H1 (!bb) e1 w1 q1⟩
theorem se_one {op} (h : SE X aw a m) : SE X aw (.BoolOp op [a] pos) m := pe_one h
theorem se_and (ha : SE X aw a m) (hb : SE X aw (.BoolOp .And (b :: rest) pos) n) : SE X aw (.BoolOp .And (a :: b :: rest) pos) (eAnd m n) := pe_to (pe_and ha hb) fun σ H R => by
  rintro ⟨G, B, ρ, Q, o, hm, k⟩
  refine ⟨G, B, ρ, _, o, hm, fun v H1 d e1 w1 r1 q1 => ?_⟩
  cases d with
  | bool bb =>
    cases r1
    refine ⟨bb, rfl, ?_⟩
    cases bb with
    | true => exact ⟨G, B, ρ, Q, o.grow e1 w1, q1, fun v H' d e w r q => k v H' d (e1.trans e) w r q⟩
    | false => exact k _ H1 _ e1 w1 (.bl _) q1
  | _ => cases q1
theorem se_or (ha : SE X aw a m) (hb : SE X aw (.BoolOp .Or (b :: rest) pos) n) : SE X aw (.BoolOp .Or (a :: b :: rest) pos) (eOr m n) := pe_to (pe_or ha hb) fun σ H R => by
  rintro ⟨G, B, ρ, Q, o, hm, k⟩
  refine ⟨G, B, ρ, _, o, hm, fun v H1 d e1 w1 r1 q1 => ?_⟩
  cases d with
  | bool bb =>
    cases r1
    refine ⟨bb, rfl, ?_⟩
    cases bb with
    | false => exact ⟨G, B, ρ, Q, o.grow e1 w1, q1, fun v H' d e w r q => k v H' d (e1.trans e) w r q⟩
    | true => exact k _ H1 _ e1 w1 (.bl _) q1
  | _ => cases q1
theorem se_not (ha : SE X aw a m) : SE X aw (.UnaryOp .Not a pos) (eNot m) := pe_to (pe_not ha) fun σ H R => by
  rintro ⟨G, B, ρ, Q, o, hm, k⟩
  refine ⟨G, B, ρ, _, o, hm, fun v H1 d e1 w1 r1 q1 => ?_⟩
  cases d with
  | bool bb => cases r1; exact ⟨bb, rfl, k _ H1 _ e1 w1 (.bl _) q1⟩
  | _ => cases q1
theorem se_if (hc : ST X aw c t) (ha : SE X aw a m) (hb : SE X aw b n) : SE X aw (.IfExp c a b pos) (eIf t m n) := pe_to (pe_ifExp hc ha hb) fun σ H R => by
  rintro ⟨G, B, ρ, Q, o, hm, k⟩
  refine ⟨G, B, ρ, _, o, hm, fun H1 bb e1 w1 q1 => ?_⟩
  cases bb with
  | true => exact ⟨G, B, ρ, Q, o.grow e1 w1, q1, fun v H' d e w r q => k v H' d (e1.trans e) w r q⟩
  | false => exact ⟨G, B, ρ, Q, o.grow e1 w1, q1, fun v H' d e w r q => k v H' d (e1.trans e) w r q⟩
end

/-! ### lists of arguments, displays, parts -/
def aNil : En → M (List D) := fun _ Q => Q []
def aCons (m : En → M D) (t : En → M (List D)) : En → M (List D) := fun ρ Q => m ρ fun d => t ρ fun ds => Q (d :: ds)
def eTup (t : En → M (List D)) : En → M D := fun ρ Q => t ρ fun ds => ds.length ≤ 100000 ∧ Q (.tuple ds)
def eLst (t : En → M (List D)) : En → M D := fun ρ Q => t ρ fun ds => ds.length ≤ 100000 ∧ Q (.list ds)
def eUn (f : D → M D) (m : En → M D) : En → M D := fun ρ Q => m ρ fun d => f d Q
def fNeg : D → M D := fun d Q => match d with
  | .int i => Q (.int (-i))
  | _ => False
section
variable {X : Cx} {aw : Option Addr} {a b c : Expr} {m n l : En → M D} {t u : En → M (List D)} {pos : Pos} {es : List Expr}
theorem sa_nil : SA X aw [] aNil := pa_to pa_nil fun σ H R => by
  rintro ⟨G, B, ρ, Q, o, hm, k⟩
  exact k [] H [] (.refl _ _) o.wld .nil hm
theorem sa_cons (ha : SE X aw a m) (hr : SA X aw es t) (hs : starEach (a :: es) X.env = (false, eval a X.env) :: starEach es X.env := by rfl) : SA X aw (a :: es) (aCons m t) := pa_to (pa_cons ha hr hs) fun σ H R => by
  rintro ⟨G, B, ρ, Q, o, hm, k⟩
  refine ⟨G, B, ρ, _, o, hm, fun v H1 d e1 w1 r1 q1 => ⟨G, B, ρ, _, o.grow e1 w1, q1, fun vs H2 ds e2 w2 r2 q2 => ?_⟩⟩
  exact k (v :: vs) H2 (d :: ds) (e1.trans e2) w2 (.cons (r1.ext w1.ne (cut_ext e2)) r2) q2
theorem se_tup {x1} (h : SA X aw es t) : SE X aw (.Tuple es x1 pos) (eTup t) := pe_to (pe_tup h) fun σ H R => by
  rintro ⟨G, B, ρ, Q, o, hm, k⟩
  refine ⟨G, B, ρ, _, o, hm, fun vs H1 ds e1 w1 r1 q1 => ⟨by rw [r1.length]; exact le_line q1.1, fun p hp => ?_⟩⟩
  have o1 := o.grow e1 w1
  exact k _ _ _ (e1.trans (.new hp)) (w1.fresh hp) (.tup (.inl (.inl (new_cut hp o1.own))) (rpA_new w1 hp r1)) q1.2
theorem se_lst (h : SA X aw es t) : SE X aw (.List es pos) (eLst t) := pe_to (pe_lst h) fun σ H R => by
  rintro ⟨G, B, ρ, Q, o, hm, k⟩
  refine ⟨G, B, ρ, _, o, hm, fun vs H1 ds e1 w1 r1 q1 => ⟨by rw [r1.length]; exact le_line q1.1, fun p hp => ?_⟩⟩
  have o1 := o.grow e1 w1
  exact k _ _ _ (e1.trans (.new hp)) (w1.fresh hp) (.lst (new_cut hp o1.own) (rpA_new w1 hp r1)) q1.2
/-- a one-place rule serves a plain one -/
def UnOk (K : PySem.W.Frag) (aw : Option Addr) (r : V → Hp → VK → Prop) (f : D → M D) : Prop := ∀ (H : Hp) (B : List Addr) (x : V) (d : D) (Q : D → Prop) (R : VK), World aw (cut H B) → (∀ p ∈ B, ∃ xs, H p = some (.lst xs)) → Rp K aw (cut H B) x d → f d Q →
  (∀ v H' z, Ext aw H H' → World aw (cut H' B) → Rp K aw (cut H' B) v z → Q z → R v H') → r x H R
theorem un_reads {K : PySem.W.Frag} {r : V → Hp → VK → Prop} {f : D → M D} (h : UnOk K aw r f) {σ : L2.St} {H : Hp} {R : VK} : tM K aw (eUn f m) σ H R → tUn r (tM K aw m) σ H R := by
  rintro ⟨G, B, ρ, Q, o, hm, k⟩
  refine ⟨G, B, ρ, _, o, hm, fun v H1 d e1 w1 r1 q1 => ?_⟩
  exact h H1 B v d Q R w1 (o.grow e1 w1).own r1 q1 fun v H' z e w r q => k v H' z (e1.trans e) w r q
theorem ok_neg {K : PySem.W.Frag} : UnOk K aw (rU fun i => .int (-i)) fNeg := by
  intro H B x d Q R w _ rx q k
  cases d with
  | int i => cases rx; exact ⟨i, rfl, k _ H _ (.refl _ _) w (.int _) q⟩
  | _ => cases q
theorem se_neg (ha : SE X aw a m) : SE X aw (.UnaryOp .USub a pos) (eUn fNeg m) := pe_to (pe_un un_neg ha) fun _ _ _ h => un_reads ok_neg h
theorem se_ix (ha : SE X aw a m) (hb : SE X aw b n) (hs : PlainIx b := by exact fun _ _ => rfl) : SE X aw (.Subscript a b pos) (eOp fIx m n) := pe_to (pe_ix ix_seq ha hb hs) (op_reads ok_ix)
end

/-! ### slices -/
abbrev En.O := En → M (Option Int)
def oNone : En → M (Option Int) := fun _ Q => Q none
def oSome (m : En → M D) : En → M (Option Int) := fun ρ Q => m ρ fun d => match d with
  | .int i => Q (some i)
  | _ => False
def cutD {α : Type} (xs : List α) (lo hi : Option Int) : List α := (xs.drop (HT.sIx xs.length 0 lo)).take (HT.sIx xs.length xs.length hi - HT.sIx xs.length 0 lo)
def fSl (d : D) (lo hi : Option Int) : M D := fun Q => match d with
  | .list ds => Q (.list (cutD ds lo hi))
  | .tuple ds => Q (.tuple (cutD ds lo hi))
  | .str z => z.length ≤ 100000 ∧ Q (.str (cutS z lo hi))
  | _ => False
def eSl (m : En → M D) (lo hi : En → M (Option Int)) : En → M D := fun ρ Q => m ρ fun d => lo ρ fun l => hi ρ fun h => fSl d l h Q
def tO (K : PySem.W.Frag) (aw : Option Addr) (m : En → M (Option Int)) : TO := fun σ H R => ∃ G B ρ Q, Ok K aw G B σ ρ H ∧ m ρ Q ∧ ∀ H' b, Ext aw H H' → World aw (cut H' B) → Q b → R b H'
theorem po_to {X : Cx} {e : Option Expr} {t t' : TO} (h : PO X e t) (i : ∀ σ H R, t' σ H R → t σ H R) : PO X e t' := ⟨fun pins s σ H Q I q => h.run pins s σ H Q I (i σ H Q q)⟩
section
variable {X : Cx} {aw : Option Addr} {a b c : Expr} {m n l : En → M D} {pos p2 : Pos} {lo hi : Option Expr} {ml mh : En → M (Option Int)}
theorem so_none : PO X none (tO X.K aw oNone) := po_to po_none fun σ H R => by
  rintro ⟨G, B, ρ, Q, o, hm, k⟩
  exact k H none (.refl _ _) o.wld hm
theorem so_some (h : SE X aw a m) : PO X (some a) (tO X.K aw (oSome m)) := po_to (po_some h) fun σ H R => by
  rintro ⟨G, B, ρ, Q, o, hm, k⟩
  refine ⟨G, B, ρ, _, o, hm, fun v H1 d e1 w1 r1 q1 => ?_⟩
  cases d with
  | int i => cases r1; exact ⟨i, rfl, k H1 _ e1 w1 q1⟩
  | _ => cases q1
theorem cutV_eq (xs : List V) (lo hi : Option Int) : cutV xs lo hi = cutD xs lo hi := rfl
theorem RpA.cut {K : PySem.W.Frag} {H : Hp} {xs : List V} {ds : List D} (r : RpA K aw H xs ds) (lo hi : Option Int) : RpA K aw H (cutD xs lo hi) (cutD ds lo hi) := by
  unfold cutD
  rw [r.length]
  exact (r.drop _).take _
theorem cut_all {α : Type} {xs : List α} {lo hi : Option Int} (h : HT.sIx xs.length 0 lo = 0 ∧ HT.sIx xs.length xs.length hi = xs.length) : cutD xs lo hi = xs := by
  unfold cutD
  rw [h.1, h.2, List.drop_zero, Nat.sub_zero, List.take_length]
theorem se_sl (he : SE X aw a m) (hl : PO X lo (tO X.K aw ml)) (hu : PO X hi (tO X.K aw mh)) : SE X aw (.Subscript a (.Slice lo hi none p2) pos) (eSl m ml mh) :=
  pe_to (pe_slice (sl_list.or (sl_tupA.or sl_str)) he hl hu) fun σ H R => by
    rintro ⟨G, B, ρ, Q, o, hm, k⟩
    refine ⟨G, B, ρ, _, o, hm, fun v H1 d e1 w1 r1 q1 => ⟨G, B, ρ, _, o.grow e1 w1, q1, fun H2 l e2 w2 q2 => ⟨G, B, ρ, _, (o.grow e1 w1).grow e2 w2, q2, fun H3 h e3 w3 q3 => ?_⟩⟩⟩
    have o3 := ((o.grow e1 w1).grow e2 w2).grow e3 w3
    have r3 : Rp X.K aw (Pl.cut H3 B) v d := (r1.ext w1.ne (cut_ext e2)).ext w2.ne (cut_ext e3)
    have e13 := e1.trans (e2.trans e3)
    cases d with
    | list ds =>
      cases r3 with
      | lst hh rr =>
      refine .inl ⟨_, _, rfl, .inl (.inl (cut_some hh).1), fun p hp => ?_⟩
      exact k _ _ _ (e13.trans (.new hp)) (w3.fresh hp) (.lst (new_cut hp o3.own) (rpA_new w3 hp (rr.cut l h))) q3
    | tuple ds =>
      cases r3 with
      | tup hh rr =>
      refine .inr (.inl ⟨_, _, rfl, sqT_less hh, fun hw => ?_, fun hw p hp => ?_⟩)
      · refine k _ _ _ e13 w3 (.tup hh ?_) q3
        have := rr.cut l h
        rw [cut_all hw] at this
        exact this
      · exact k _ _ _ (e13.trans (.new hp)) (w3.fresh hp) (.tup (.inl (.inl (new_cut hp o3.own))) (rpA_new w3 hp (rr.cut l h))) q3
    | str z =>
      cases r3
      exact .inr (.inr ⟨z, rfl, le_line q3.1, k _ _ _ e13 w3 (.str _) q3.2⟩)
    | _ => cases q3
end


/-! ### calls -/
def eCall (f : List D → M D) (t : En → M (List D)) : En → M D := fun ρ Q => t ρ fun ds => f ds Q
def ArgOk (K : PySem.W.Frag) (aw : Option Addr) (r : List V → Hp → VK → Prop) (f : List D → M D) : Prop := ∀ (H : Hp) (B : List Addr) (xs : List V) (ds : List D) (Q : D → Prop) (R : VK), World aw (cut H B) → (∀ p ∈ B, ∃ xs, H p = some (.lst xs)) → RpA K aw (cut H B) xs ds → f ds Q →
  (∀ v H' z, Ext aw H H' → World aw (cut H' B) → Rp K aw (cut H' B) v z → Q z → R v H') → r xs H R
theorem cr_or {X : Cx} {f : Value} {r r' : List V → Hp → VK → Prop} (h : CallR X f r) (h' : CallR X f r') : CallR X f (fun xs H Q => r xs H Q ∨ r' xs H Q) := by
  intro pins s σ H xs us Q I rv q
  rcases q with q | q
  · exact h pins s σ H xs us Q I rv q
  · exact h' pins s σ H xs us Q I rv q
theorem arg_reads {K : PySem.W.Frag} {aw : Option Addr} {r : List V → Hp → VK → Prop} {f : List D → M D} {t : En → M (List D)} (h : ArgOk K aw r f) {σ : L2.St} {H : Hp} {R : VK} : tM K aw (eCall f t) σ H R → tCB r (tA K aw t) σ H R := by
  rintro ⟨G, B, ρ, Q, o, hm, k⟩
  refine ⟨G, B, ρ, _, o, hm, fun vs H1 ds e1 w1 r1 q1 => ?_⟩
  exact h H1 B vs ds Q R w1 (o.grow e1 w1).own r1 q1 fun v H' z e w r q => k v H' z (e1.trans e) w r q
section
variable {X : Cx} {aw : Option Addr} {x : Str} {p pos : Pos} {e : Expr} {es : List Expr} {t : En → M (List D)} {id T : String} {r : List V → Hp → VK → Prop} {f : List D → M D}
theorem se_callB (hc : CallR X (.builtin id) r) (hok : ArgOk X.K aw r f) (hv : bootBuiltins x = some (.builtin id)) (hn : x ≠ "__name__") (hdb : (x == ("__debug__" : Str)) = false) (hg : Gl X x) (hm : X.mg x = none) (ha : SA X aw (e :: es) t)
    (he : starEach (e :: es) X.env = (false, eval e X.env) :: starEach es X.env := by rfl) (hpl : (backTo pos (starEach es X.env)).any (·.1) = false := by rfl) : SE X aw (.Call (.Name x p) (e :: es) [] pos) (eCall f t) :=
  pe_to (pe_callB hc hg hm hv ha hn hdb he hpl) fun _ _ _ h => arg_reads hok h
theorem se_callTy (hc : CallR X (.type T) r) (hok : ArgOk X.K aw r f) (hv : bootBuiltins x = some (.type T)) (hn : x ≠ "__name__") (hdb : (x == ("__debug__" : Str)) = false) (hg : Gl X x) (hm : X.mg x = none) (ha : SA X aw (e :: es) t)
    (he : starEach (e :: es) X.env = (false, eval e X.env) :: starEach es X.env := by rfl) (hpl : (backTo pos (starEach es X.env)).any (·.1) = false := by rfl) : SE X aw (.Call (.Name x p) (e :: es) [] pos) (eCall f t) :=
  pe_to (pe_callTy hc hg hm hv ha hn hdb he hpl) fun _ _ _ h => arg_reads hok h
end
def fLen : List D → M D := fun ds Q => match ds with
  | [.list xs] => Q (.int xs.length)
  | [.tuple xs] => Q (.int xs.length)
  | [.str z] => z.length ≤ 100000 ∧ Q (.int z.length)
  | [.dict [(.none, .list xs)]] => Q (.int xs.length)
  | _ => False
def fAbs : List D → M D := fun ds Q => match ds with
  | [.int i] => Q (.int (if i < 0 then -i else i))
  | _ => False
def fInt : List D → M D := fun ds Q => match ds with
  | [.int i] => Q (.int i)
  | [.bool b] => Q (.int (if b then 1 else 0))
  | _ => False
def fStr : List D → M D := fun ds Q => match ds with
  | [.int i] => i.natAbs.log2 < 1920 ∧ Q (.str (toString i : String))
  | _ => False
def fTuple : List D → M D := fun ds Q => match ds with
  | [.list xs] => Q (.tuple xs)
  | [.tuple xs] => Q (.tuple xs)
  | _ => False
def fList : List D → M D := fun ds Q => match ds with
  | [.list xs] => Q (.list xs)
  | [.tuple xs] => Q (.list xs)
  | _ => False
def boolsOf : List D → Option (List Bool)
  | [] => some []
  | .bool b :: ds => (boolsOf ds).map (b :: ·)
  | _ => none
def fAll : List D → M D := fun ds Q => match ds with
  | [.list xs] => match boolsOf xs with
    | some bs => Q (.bool (bs.all id))
    | none => False
  | _ => False
/-- the name of a datum's type -/
def tyD : D → Option String
  | .none => some "NoneType"
  | .bool _ => some "bool"
  | .int _ => some "int"
  | .str _ => some "str"
  | .list _ => some "list"
  | .tuple _ => some "tuple"
  | .dict _ => none
def isD (a T : String) : Bool := a == T || (a == "bool" && T == "int")
def fIsi (T : String) : D → M D := fun d Q => match tyD d with
  | some a => Q (.bool (isD a T))
  | none => False
section
variable {X : Cx} {K : PySem.W.Frag} {aw : Option Addr}
theorem ok_len : ArgOk K aw (fun xs H Q => (∃ p ys, xs = [.ref p] ∧ (SqL K H p ys ∨ SqT K H p ys) ∧ Q (.int ys.length) H) ∨ ∃ z, xs = [.str z] ∧ z.length ≤ sizeLine ∧ Q (.int z.length) H) fLen := by
  intro H B xs ds Q R w hB r q k
  unfold fLen at q
  split at q
  · cases r with
    | cons r0 rr =>
    cases rr
    cases r0 with
    | lst h1 r1 =>
    exact .inl ⟨_, _, rfl, .inl (.inl (.inl (cut_some h1).1)), by rw [r1.length]; exact k _ H _ (.refl _ _) w (.int _) q⟩
  · cases r with
    | cons r0 rr =>
    cases rr
    cases r0 with
    | tup h1 r1 =>
    exact .inl ⟨_, _, rfl, .inr (sqT_less h1), by rw [r1.length]; exact k _ H _ (.refl _ _) w (.int _) q⟩
  · cases r with
    | cons r0 rr =>
    cases rr
    cases r0
    exact .inr ⟨_, rfl, le_line q.1, k _ H _ (.refl _ _) w (.int _) q.2⟩
  · cases r with
    | cons r0 rr =>
    cases rr
    cases r0 with
    | scr h1 =>
    rw [List.length_map] at q
    exact .inl ⟨_, _, rfl, .inl h1.less.sq, by rw [List.length_map]; exact k _ H _ (.refl _ _) w (.int _) q⟩
  · cases q
theorem ok_abs : ArgOk K aw (fun xs H Q => ∃ i, xs = [.int i] ∧ Q (.int (if i < 0 then -i else i)) H) fAbs := by
  intro H B xs ds Q R w hB r q k
  unfold fAbs at q
  split at q
  · cases r with
    | cons r0 rr =>
    cases rr
    cases r0
    exact ⟨_, rfl, k _ H _ (.refl _ _) w (.int _) q⟩
  · cases q
theorem ok_int : ArgOk K aw (fun xs H Q => (∃ i, xs = [.int i] ∧ Q (.int i) H) ∨ ∃ k, xs = [.bl k] ∧ Q (.int (if k then 1 else 0)) H) fInt := by
  intro H B xs ds Q R w hB r q k
  unfold fInt at q
  split at q
  · cases r with
    | cons r0 rr =>
    cases rr
    cases r0
    exact .inl ⟨_, rfl, k _ H _ (.refl _ _) w (.int _) q⟩
  · cases r with
    | cons r0 rr =>
    cases rr
    cases r0
    exact .inr ⟨_, rfl, k _ H _ (.refl _ _) w (.int _) q⟩
  · cases q
theorem ok_str : ArgOk K aw (fun xs H Q => ∃ i, xs = [.int i] ∧ i.natAbs.log2 < 1920 ∧ Q (.str (toString i)) H) fStr := by
  intro H B xs ds Q R w hB r q k
  unfold fStr at q
  split at q
  · cases r with
    | cons r0 rr =>
    cases rr
    cases r0
    exact ⟨_, rfl, q.1, k _ H _ (.refl _ _) w (.str _) q.2⟩
  · cases q
theorem ok_tuple : ArgOk K aw (fun xs H Q => ∃ p ys, xs = [.ref p] ∧ ((SqL K H p ys ∧ ∀ l, H l = none → Q (.ref l) (upd H l (.tup ys))) ∨ (SqT K H p ys ∧ Q (.ref p) H))) fTuple := by
  intro H B xs ds Q R w hB r q k
  unfold fTuple at q
  split at q
  · cases r with
    | cons r0 rr =>
    cases rr
    cases r0 with
    | lst h1 r1 =>
    exact ⟨_, _, rfl, .inl ⟨.inl (.inl (cut_some h1).1), fun l hl => k _ _ _ (.new hl) (w.fresh hl) (.tup (.inl (.inl (new_cut hl hB))) (rpA_new w hl r1)) q⟩⟩
  · cases r with
    | cons r0 rr =>
    cases rr
    cases r0 with
    | tup h1 r1 =>
    exact ⟨_, _, rfl, .inr ⟨sqT_less h1, k _ H _ (.refl _ _) w (.tup h1 r1) q⟩⟩
  · cases q
theorem ok_list : ArgOk K aw (fun xs H Q => ∃ p ys, xs = [.ref p] ∧ (SqL K H p ys ∨ SqT K H p ys) ∧ ∀ l, H l = none → Q (.ref l) (upd H l (.lst ys))) fList := by
  intro H B xs ds Q R w hB r q k
  unfold fList at q
  split at q
  · cases r with
    | cons r0 rr =>
    cases rr
    cases r0 with
    | lst h1 r1 =>
    exact ⟨_, _, rfl, .inl (.inl (.inl (cut_some h1).1)), fun l hl => k _ _ _ (.new hl) (w.fresh hl) (.lst (new_cut hl hB) (rpA_new w hl r1)) q⟩
  · cases r with
    | cons r0 rr =>
    cases rr
    cases r0 with
    | tup h1 r1 =>
    exact ⟨_, _, rfl, .inr (sqT_less h1), fun l hl => k _ _ _ (.new hl) (w.fresh hl) (.lst (new_cut hl hB) (rpA_new w hl r1)) q⟩
  · cases q
theorem bools_rp {H : Hp} : ∀ {ds : List D} {bs : List Bool} {xs : List V}, boolsOf ds = some bs → RpA K aw H xs ds → xs = bs.map V.bl
  | [], _, _, e, r => by cases r; cases e; rfl
  | .bool b :: ds, bs, _, e, r => by
    unfold boolsOf at e
    cases q : boolsOf ds with
    | none => rw [q] at e; cases e
    | some cs =>
      rw [q] at e
      cases e
      cases r with
      | cons r0 rr =>
      cases r0
      rw [bools_rp q rr]
      rfl
  | .none :: _, _, _, e, _ => by cases e
  | .int _ :: _, _, _, e, _ => by cases e
  | .str _ :: _, _, _, e, _ => by cases e
  | .list _ :: _, _, _, e, _ => by cases e
  | .tuple _ :: _, _, _, e, _ => by cases e
  | .dict _ :: _, _, _, e, _ => by cases e
theorem ok_all : ArgOk K aw (rAll K) fAll := by
  intro H B xs ds Q R w hB r q k
  unfold fAll at q
  split at q
  · split at q
    · rename_i bs hb
      cases r with
      | cons r0 rr =>
      cases rr
      cases r0 with
      | lst h1 r1 =>
      have e := bools_rp hb r1
      subst e
      exact ⟨_, bs, rfl, .inl (.inl (cut_some h1).1), k _ H _ (.refl _ _) w (.bl _) q⟩
    · cases q
  · cases q
variable {p pos : Pos} {e : Expr} {es : List Expr} {t : En → M (List D)} {m : En → M D}
theorem se_len (hg : Gl X "len") (hm : X.mg "len" = none) (ha : SA X aw (e :: es) t) (he : starEach (e :: es) X.env = (false, eval e X.env) :: starEach es X.env := by rfl) (hpl : (backTo pos (starEach es X.env)).any (·.1) = false := by rfl) : SE X aw (.Call (.Name "len" p) (e :: es) [] pos) (eCall fLen t) :=
  se_callB (cr_or call_len_seq call_len_str) ok_len PySem.boot_len (by decide) (by decide) hg hm ha he hpl
theorem se_abs (hg : Gl X "abs") (hm : X.mg "abs" = none) (ha : SA X aw (e :: es) t) (he : starEach (e :: es) X.env = (false, eval e X.env) :: starEach es X.env := by rfl) (hpl : (backTo pos (starEach es X.env)).any (·.1) = false := by rfl) : SE X aw (.Call (.Name "abs" p) (e :: es) [] pos) (eCall fAbs t) :=
  se_callB call_abs ok_abs (by decide +kernel) (by decide) (by decide) hg hm ha he hpl
theorem se_intc (hg : Gl X "int") (hm : X.mg "int" = none) (ha : SA X aw (e :: es) t) (he : starEach (e :: es) X.env = (false, eval e X.env) :: starEach es X.env := by rfl) (hpl : (backTo pos (starEach es X.env)).any (·.1) = false := by rfl) : SE X aw (.Call (.Name "int" p) (e :: es) [] pos) (eCall fInt t) :=
  se_callTy call_int1 ok_int (by decide +kernel) (by decide) (by decide) hg hm ha he hpl
theorem se_strc (hg : Gl X "str") (hm : X.mg "str" = none) (ha : SA X aw (e :: es) t) (he : starEach (e :: es) X.env = (false, eval e X.env) :: starEach es X.env := by rfl) (hpl : (backTo pos (starEach es X.env)).any (·.1) = false := by rfl) : SE X aw (.Call (.Name "str" p) (e :: es) [] pos) (eCall fStr t) :=
  se_callTy call_str_int ok_str (by decide +kernel) (by decide) (by decide) hg hm ha he hpl
theorem se_tuplec (hg : Gl X "tuple") (hm : X.mg "tuple" = none) (ha : SA X aw (e :: es) t) (he : starEach (e :: es) X.env = (false, eval e X.env) :: starEach es X.env := by rfl) (hpl : (backTo pos (starEach es X.env)).any (·.1) = false := by rfl) : SE X aw (.Call (.Name "tuple" p) (e :: es) [] pos) (eCall fTuple t) :=
  se_callTy call_tuple_of ok_tuple (by decide +kernel) (by decide) (by decide) hg hm ha he hpl
theorem se_listc (hg : Gl X "list") (hm : X.mg "list" = none) (ha : SA X aw (e :: es) t) (he : starEach (e :: es) X.env = (false, eval e X.env) :: starEach es X.env := by rfl) (hpl : (backTo pos (starEach es X.env)).any (·.1) = false := by rfl) : SE X aw (.Call (.Name "list" p) (e :: es) [] pos) (eCall fList t) :=
  se_callTy call_list_of ok_list (by decide +kernel) (by decide) (by decide) hg hm ha he hpl
theorem se_allc (hc : X.calm = true) (hg : Gl X "all") (hm : X.mg "all" = none) (ha : SA X aw (e :: es) t) (he : starEach (e :: es) X.env = (false, eval e X.env) :: starEach es X.env := by rfl) (hpl : (backTo pos (starEach es X.env)).any (·.1) = false := by rfl) : SE X aw (.Call (.Name "all" p) (e :: es) [] pos) (eCall fAll t) :=
  se_callB (cr_all hc) ok_all (by decide +kernel) (by decide) (by decide) hg hm ha he hpl
/-- isinstance(e, T) -/
theorem kit_isD (a T : String) (ha : a ∈ ["NoneType", "bool", "int", "str", "list", "tuple"]) (hT : T ∈ ["bool", "int", "str", "list", "tuple"]) : PySem.W.kitOne K (.type a) (.type T) = some (isD a T) := by
  simp only [List.mem_cons, List.not_mem_nil, or_false] at ha hT
  rcases ha with rfl | rfl | rfl | rfl | rfl | rfl <;> rcases hT with rfl | rfl | rfl | rfl | rfl <;> rfl
theorem tyX_of {H : Hp} {B : List Addr} {v : V} {d : D} {a : String} (r : Rp K aw (cut H B) v d) (e : tyD d = some a) : TyX K H v (.type a) ∧ a ∈ ["NoneType", "bool", "int", "str", "list", "tuple"] := by
  cases r with
  | non => cases e; exact ⟨.base .non, by decide⟩
  | bl b => cases e; exact ⟨.base (.bl b), by decide⟩
  | int b => cases e; exact ⟨.base (.int b), by decide⟩
  | str b => cases e; exact ⟨.base (.str b), by decide⟩
  | lst h _ => cases e; exact ⟨.base (.lst (cut_some h).1), by decide⟩
  | tup h _ =>
    cases e
    refine ⟨?_, by decide⟩
    rcases sqT_less h with (h | ⟨o, h⟩) | ⟨o, its, n, h1, h2, _⟩
    · exact .base (.tup h)
    · exact .fTuple h
    · exact .kTuple h1 h2
  | wld _ _ => cases e
  | scr _ => cases e
theorem se_isi {T : Str} {TT : String} {p2 : Pos} (hT : bootBuiltins T = some (.type TT)) (hTT : TT ∈ ["bool", "int", "str", "list", "tuple"]) (hgT : Gl X T) (hmT : X.mg T = none) (hg : Gl X "isinstance") (hm : X.mg "isinstance" = none) (ha : SE X aw e m) (hnT : T ≠ "__name__" := by decide) (hdT : (T == ("__debug__" : Str)) = false := by decide)
    (he : starEach [e, .Name T p2] X.env = (false, eval e X.env) :: starEach [.Name T p2] X.env := by rfl) (hpl : (backTo pos (starEach [.Name T p2] X.env)).any (·.1) = false := by rfl) : SE X aw (.Call (.Name "isinstance" p) [e, .Name T p2] [] pos) (eUn (fIsi TT) m) := by
  have hn : PE X (.Name T p2) (tC (.ty TT)) := pe_bltn hgT hmT hT rfl hnT hdT
  have hA : PA X [e, .Name T p2] (tCons (tM X.K aw m) (tCons (tC (.ty TT)) tNil)) := pa_cons ha (pa_cons hn pa_nil (by rfl)) he
  refine pe_to (pe_callB call_isi hg hm (by decide +kernel) hA (by decide) (by decide) he hpl) fun σ H R => ?_
  rintro ⟨G, B, ρ, Q, o, hm, k⟩
  refine ⟨G, B, ρ, _, o, hm, fun v H1 d e1 w1 r1 q1 => ?_⟩
  unfold fIsi at q1
  split at q1
  · rename_i a ea
    obtain ⟨ty, ma⟩ := tyX_of r1 ea
    exact ⟨v, .ty TT, _, _, isD a TT, rfl, .ty TT, ty, kit_isD a TT ma hTT, k _ H1 _ e1 w1 (.bl _) q1⟩
  · cases q1
end

/-! ### a def's promise -/
def spF (K : PySem.W.Frag) (n : Nat) (F : List D → M D) : Sp := fun vs H Q _ => ∃ aw B ds P, vs.length = n ∧ World aw (cut H B) ∧ (∀ p ∈ B, ∃ xs, H p = some (.lst xs)) ∧ RpA K aw (cut H B) vs ds ∧ F ds P ∧ ∀ v H' d, Ext aw H H' → World aw (cut H' B) → Rp K aw (cut H' B) v d → P d → Q v H'
structure Df (P : Program) (w : PySem.World) (K : PySem.W.Frag) (mg : Str → Option Value) (base : Heap) (x : Str) (n k : Nat) (F : List D → M D) : Prop where
  ex : ∃ f fd ps, ps.length = n ∧ mg x = some (.ref f) ∧ PySem.W.keepIn K (.ref f) = true ∧ Binds K fd ps [] ∧ FnOk P w K mg base CX0 k f fd ps (spF K n F)
theorem Df.mono {P : Program} {w : PySem.World} {K : PySem.W.Frag} {mg : Str → Option Value} {base : Heap} {x : Str} {n j k : Nat} {F : List D → M D} (h : Df P w K mg base x n j F) (l : j ≤ k) : Df P w K mg base x n k F := by
  obtain ⟨f, fd, ps, h0, h1, h2, h3, h4⟩ := h.ex
  exact ⟨f, fd, ps, h0, h1, h2, h3, h4.mono l⟩
/-- a call with so many arguments -/
def eCallN (n : Nat) (F : List D → M D) (t : En → M (List D)) : En → M D := fun ρ Q => t ρ fun ds => ds.length = n ∧ F ds Q
section
variable {X : Cx} {aw : Option Addr} {x : Str} {p pos : Pos} {e : Expr} {es : List Expr} {t : En → M (List D)} {F : List D → M D} {n k j : Nat}
theorem se_call (h : Df X.prog X.w X.K X.mg X.base x n j F) (hr : Room k X.A) (hjk : j ≤ k) (hg : Gl X x) (ha : SA X aw (e :: es) t)
    (hdb : (x == ("__debug__" : Str)) = false := by decide) (he : starEach (e :: es) X.env = (false, eval e X.env) :: starEach es X.env := by rfl) (hpl : (backTo pos (starEach es X.env)).any (·.1) = false := by rfl) : SE X aw (.Call (.Name x p) (e :: es) [] pos) (eCallN n F t) := by
  obtain ⟨f, fd, ps, h0, h1, h2, h3, h4⟩ := h.ex
  refine pe_to (pe_call h4 (hr.mono hjk) hg h1 h2 h3 .nil pass0 ha hdb he hpl) fun σ H R => ?_
  rintro ⟨G, B, ρ, Q, o, hm, q⟩
  refine ⟨G, B, ρ, _, o, hm, fun vs H1 ds e1 w1 r1 q1 => ?_⟩
  refine ⟨aw, B, ds, Q, by rw [List.append_nil, r1.length]; exact q1.1, w1, (o.grow e1 w1).own, by rw [List.append_nil]; exact r1, q1.2, fun v H' d e2 w2 r2 q2 => q v H' d (e1.trans e2) w2 r2 q2⟩
end


/-! ### targets -/
abbrev MG := D → En → (En → Prop) → Prop
abbrev MGs := List D → En → (En → Prop) → Prop
def mgName (i : Nat) : MG := fun d ρ Q => Q (ρ.set i (.va d))
def mgNil : MGs := fun ds ρ Q => ds = [] ∧ Q ρ
def mgCons (g : MG) (gs : MGs) : MGs := fun ds ρ Q => match ds with
  | d :: r => g d ρ fun ρ' => gs r ρ' Q
  | [] => False
def mgTup (n : Nat) (gs : MGs) : MG := fun d ρ Q => match d with
  | .tuple ds => ds.length = n ∧ gs ds ρ Q
  | _ => False
def mgLst (n : Nat) (gs : MGs) : MG := fun d ρ Q => match d with
  | .list ds => ds.length = n ∧ gs ds ρ Q
  | _ => False
/-- the slots but those at `is` are as they were -/
def Same (is : List Nat) (σ σ' : L2.St) : Prop := σ'.length = σ.length ∧ ∀ i, i ∉ is → σ'[i]? = σ[i]?
theorem Same.rfl {is : List Nat} {σ : L2.St} : Same is σ σ := ⟨Eq.refl _, fun _ _ => Eq.refl _⟩
theorem Same.wipe {is : List Nat} {σ σ' : L2.St} (h : Same is σ σ') : L2.wipe σ' is = L2.wipe σ is := by
  refine List.ext_getElem? fun i => ?_
  by_cases hi : i ∈ is
  · have e : ∀ τ : L2.St, (L2.wipe τ is)[i]? = if i < τ.length then some none else none := fun τ => by
      have := L2.wipe_length τ is
      by_cases hl : i < τ.length
      · rw [if_pos hl]
        cases q : (L2.wipe τ is)[i]? with
        | none => rw [List.getElem?_eq_none_iff] at q; omega
        | some s =>
          cases s with
          | none => exact Eq.refl _
          | some v => exact absurd hi (L2.wipe_some q).2
      · rw [if_neg hl, List.getElem?_eq_none (by omega)]
    rw [e, e, h.1]
  · rw [L2.wipe_out hi, L2.wipe_out hi, h.2 i hi]
def tG (K : PySem.W.Frag) (aw : Option Addr) (is : List Nat) (g : MG) : TG := fun v σ H R => ∃ G B ρ d Q, Ok K aw G B σ ρ H ∧ Rp K aw (cut H B) v d ∧ g d ρ Q ∧ ∀ σ' ρ', Ok K aw G B σ' ρ' H → Same is σ σ' → Q ρ' → R σ' H
def tGs (K : PySem.W.Frag) (aw : Option Addr) (is : List Nat) (g : MGs) : TGs := fun vs σ H R => ∃ G B ρ ds Q, Ok K aw G B σ ρ H ∧ RpA K aw (cut H B) vs ds ∧ g ds ρ Q ∧ ∀ σ' ρ', Ok K aw G B σ' ρ' H → Same is σ σ' → Q ρ' → R σ' H
abbrev SG (X : Cx) (aw : Option Addr) (is : List Nat) (e : Expr) (g : MG) : Prop := PG X e (tG X.K aw is g)
abbrev SGs (X : Cx) (aw : Option Addr) (is : List Nat) (es : List Expr) (g : MGs) : Prop := PGs X es (tGs X.K aw is g)
theorem pg_to {X : Cx} {e : Expr} {t t' : TG} (h : PG X e t) (i : ∀ v σ H R, t' v σ H R → t v σ H R) : PG X e t' := ⟨fun pins s σ H v u Q I r q => h.run pins s σ H v u Q I r (i v σ H Q q)⟩
theorem pgs_to {X : Cx} {e : List Expr} {t t' : TGs} (h : PGs X e t) (i : ∀ v σ H R, t' v σ H R → t v σ H R) : PGs X e t' := ⟨fun pins s σ H vs us Q I r q => h.run pins s σ H vs us Q I r (i vs σ H Q q)⟩
section
variable {X : Cx} {aw : Option Addr} {e : Expr} {es : List Expr} {g : MG} {gs : MGs} {pos : Pos} {is js : List Nat}
theorem sg_name {i : Nat} {x : Str} (h : PG X (.Name x pos) (gName i)) : SG X aw [i] (.Name x pos) (mgName i) := pg_to h fun v σ H R => by
  rintro ⟨G, B, ρ, d, Q, o, r, hg, k⟩
  refine k _ _ (o.set r i) ⟨by simp, fun j hj => ?_⟩ hg
  rw [List.getElem?_set_ne fun z => hj (by simp [z])]
theorem sgs_nil : SGs X aw [] [] mgNil := pgs_to pgs_nil fun v σ H R => by
  rintro ⟨G, B, ρ, ds, Q, o, r, ⟨rfl, hg⟩, k⟩
  cases r
  exact ⟨rfl, k σ ρ o .rfl hg⟩
theorem sgs_cons (h1 : SG X aw is e g) (h2 : SGs X aw js es gs) (hs : (assignEach (e :: es) X.env).map (·.2) = assign e X.env :: (assignEach es X.env).map (·.2) := by rfl) : SGs X aw (is ++ js) (e :: es) (mgCons g gs) := pgs_to (pgs_cons h1 h2 hs) fun v σ H R => by
  rintro ⟨G, B, ρ, ds, Q, o, r, hg, k⟩
  cases r with
  | nil => exact hg.elim
  | cons r0 rr =>
  refine ⟨_, _, rfl, G, B, ρ, _, _, o, r0, hg, fun σ' ρ' o' s' hg' => ⟨G, B, ρ', _, _, o', rr, hg', fun σ2 ρ2 o2 s2 q2 => k σ2 ρ2 o2 ⟨s2.1.trans s'.1, fun i hi => ?_⟩ q2⟩⟩
  rw [s2.2 i fun z => hi (List.mem_append_right _ z), s'.2 i fun z => hi (List.mem_append_left _ z)]
theorem sg_tup {k n : Nat} (hc : X.calm = true) (h : SGs X aw is es gs) (hn : (assignEach es X.env).length = n := by rfl) (hst : (assignEach es X.env).findIdx? (·.1) = none := by rfl) : SG X aw is (.Tuple es k pos) (mgTup n gs) := pg_to (pg_tup hc h hn hst) fun v σ H R => by
  rintro ⟨G, B, ρ, d, Q, o, r, hg, k⟩
  cases d with
  | tuple ds =>
    cases r with
    | tup h1 r1 => exact ⟨_, _, rfl, sqT_less h1, by rw [r1.length]; exact hg.1, G, B, ρ, ds, Q, o, r1, hg.2, k⟩
  | _ => exact hg.elim
theorem sg_lst {k n : Nat} (hc : X.calm = true) (h : SGs X aw is es gs) (hn : (assignEach es X.env).length = n := by rfl) (hst : (assignEach es X.env).findIdx? (·.1) = none := by rfl) : SG X aw is (.Tuple es k pos) (mgLst n gs) := pg_to (pg_unl hc h hn hst) fun v σ H R => by
  rintro ⟨G, B, ρ, d, Q, o, r, hg, k⟩
  cases d with
  | list ds =>
    cases r with
    | lst h1 r1 => exact ⟨_, _, rfl, .inl (.inl (cut_some h1).1), by rw [r1.length]; exact hg.1, G, B, ρ, ds, Q, o, r1, hg.2, k⟩
  | _ => exact hg.elim
end

/-! ### statements -/
structure Po where
  nx : En → Prop
  rt : D → Prop
  bk : En → Prop
  ct : En → Prop
abbrev MS := En → Po → Prop
def tS (K : PySem.W.Frag) (aw : Option Addr) (s : MS) : TS := fun Dn σ H => ∃ G B ρ P, Ok K aw G B σ ρ H ∧ s ρ P ∧
  (∀ σ' H' ρ' B', Ok K aw G B' σ' ρ' H' → Ext aw (cut H B) (cut H' B') → P.nx ρ' → Dn.nx σ' H') ∧
  (∀ v H' d, Ext aw G.H0 H' → World aw (cut H' G.Bc) → Rp K aw (cut H' G.Bc) v d → P.rt d → Dn.rt v H') ∧
  (∀ σ' H' ρ' B', Ok K aw G B' σ' ρ' H' → Ext aw (cut H B) (cut H' B') → P.bk ρ' → Dn.bk σ' H') ∧
  (∀ σ' H' ρ' B', Ok K aw G B' σ' ρ' H' → Ext aw (cut H B) (cut H' B') → P.ct ρ' → Dn.ct σ' H')
abbrev SS (X : Cx) (aw : Option Addr) (st : Stmt) (s : MS) : Prop := PS X st (tS X.K aw s)
abbrev SSs (X : Cx) (aw : Option Addr) (st : List Stmt) (s : MS) : Prop := PSs X st (tS X.K aw s)
def sNext : MS := fun ρ P => P.nx ρ
def sNever : MS := fun _ _ => False
def sBreak : MS := fun ρ P => P.bk ρ
def sCont : MS := fun ρ P => P.ct ρ
def sSeq (s t : MS) : MS := fun ρ P => s ρ { P with nx := fun ρ' => t ρ' P }
def sAsg (m : En → M D) (g : MG) : MS := fun ρ P => m ρ fun d => g d ρ P.nx
def sRet (m : En → M D) : MS := fun ρ P => m ρ P.rt
def sIf (c : En → M Bool) (s t : MS) : MS := fun ρ P => c ρ fun b => if b = true then s ρ P else t ρ P
def sDrop (m : En → M D) : MS := fun ρ P => m ρ fun _ => P.nx ρ
def sPar (i j : Nat) (t : En → M (List D)) : MS := fun ρ P => t ρ fun ds => match ds with
  | [a, b] => P.nx ((ρ.set i (.va a)).set j (.va b))
  | _ => False
def sPar3 (i j l : Nat) (t : En → M (List D)) : MS := fun ρ P => t ρ fun ds => match ds with
  | [a, b, c] => P.nx (((ρ.set i (.va a)).set j (.va b)).set l (.va c))
  | _ => False
/-- the own list in a slot is no more own: it may be told to others, and grows no more -/
def sFreeze (i : Nat) (s : MS) : MS := fun ρ P => match ρ[i]? with
  | some (.ow ds) => s (ρ.set i (.va (.list ds))) P
  | _ => False
section
variable {X : Cx} {aw : Option Addr} {st : Stmt} {rest sts sts2 : List Stmt} {s t : MS} {e c : Expr} {es : List Expr} {m : En → M D} {g : MG} {tt : En → M Bool} {ta : En → M (List D)} {pos : Pos} {is : List Nat}
theorem ret_less {K : PySem.W.Frag} {G : Gh} {B : List Addr} {σ : L2.St} {ρ : En} {H : Hp} {v : V} {d : D} (o : Ok K aw G B σ ρ H) (r : Rp K aw (cut H B) v d) : World aw (cut H G.Bc) ∧ Rp K aw (cut H G.Bc) v d := by
  have e : Ext aw (cut H B) (cut H G.Bc) := cut_less o.sub
  refine ⟨o.wld.ext e ?_, r.ext o.wld.ne e⟩
  intro a ea
  unfold cut
  rw [if_neg (o.awB a ea), if_neg fun z => o.awB a ea (o.sub _ z)]
theorem ss_nil : SSs X aw [] sNext := pss_to pss_nil fun Dn σ H => by
  rintro ⟨G, B, ρ, P, o, hs, h1, _⟩
  exact h1 σ H ρ B o (.refl _ _) hs
theorem ss_cons (h1 : SS X aw st s) (h2 : SSs X aw rest t) : SSs X aw (st :: rest) (sSeq s t) := pss_to (pss_cons h1 h2) fun Dn σ H => by
  rintro ⟨G, B, ρ, P, o, hs, k1, k2, k3, k4⟩
  refine ⟨G, B, ρ, _, o, hs, fun σ' H' ρ' B' o' e' q' => ?_, k2, k3, k4⟩
  exact ⟨G, B', ρ', P, o', q', fun σ2 H2 ρ2 B2 o2 e2 q2 => k1 σ2 H2 ρ2 B2 o2 (e'.trans e2) q2, k2, fun σ2 H2 ρ2 B2 o2 e2 q2 => k3 σ2 H2 ρ2 B2 o2 (e'.trans e2) q2, fun σ2 H2 ρ2 B2 o2 e2 q2 => k4 σ2 H2 ρ2 B2 o2 (e'.trans e2) q2⟩
theorem ss_one (h1 : SS X aw st s) : SSs X aw [st] s := pss_one h1
theorem ss_brk : SS X aw (.Break pos) sBreak := ps_to ps_break fun Dn σ H => by
  rintro ⟨G, B, ρ, P, o, hs, k1, k2, k3, k4⟩
  exact k3 σ H ρ B o (.refl _ _) hs
theorem ss_cont : SS X aw (.Continue pos) sCont := ps_to ps_continue fun Dn σ H => by
  rintro ⟨G, B, ρ, P, o, hs, k1, k2, k3, k4⟩
  exact k4 σ H ρ B o (.refl _ _) hs
theorem ss_never : SS X aw st sNever := ps_to ps_never fun Dn σ H => by
  rintro ⟨G, B, ρ, P, o, hs, _⟩
  exact hs.elim
theorem asg_reads : ∀ Dn σ H, tS X.K aw (sAsg m g) Dn σ H → tAsg (tM X.K aw m) (tG X.K aw is g) Dn σ H := fun Dn σ H => by
  rintro ⟨G, B, ρ, P, o, hs, k1, k2, k3, k4⟩
  refine ⟨G, B, ρ, _, o, hs, fun v H1 d e1 w1 r1 q1 => ?_⟩
  exact ⟨G, B, ρ, d, _, o.grow e1 w1, r1, q1, fun σ' ρ' o' _ q' => k1 σ' H1 ρ' B o' (cut_ext e1) q'⟩
theorem ss_asg (he : SE X aw e m) (hg : SG X aw is c g) (hs : swapsWithSole [c] e pos.line X.env = pure false := by rfl) (hw : swappedStores [c] e X.env = pure none := by rfl) (h1 : (assignEach [c] X.env).map (·.2) = [assign c X.env] := by rfl) : SS X aw (.Assign [c] e pos) (sAsg m g) :=
  ps_to (ps_asg he hg hs hw h1) (asg_reads (is := is))
theorem ss_ret (he : SE X aw e m) : SS X aw (.Return (some e) pos) (sRet m) := ps_to (ps_ret he) fun Dn σ H => by
  rintro ⟨G, B, ρ, P, o, hs, k1, k2, k3, k4⟩
  refine ⟨G, B, ρ, _, o, hs, fun v H1 d e1 w1 r1 q1 => ?_⟩
  have o1 := o.grow e1 w1
  obtain ⟨w2, r2⟩ := ret_less o1 r1
  exact k2 v H1 d o1.ext w2 r2 q1
theorem ss_if (hc : ST X aw c tt) (ha : SSs X aw sts s) (hb : SSs X aw sts2 t) : SS X aw (.If c sts sts2 pos) (sIf tt s t) := ps_to (ps_if hc ha hb) fun Dn σ H => by
  rintro ⟨G, B, ρ, P, o, hs, k1, k2, k3, k4⟩
  refine ⟨G, B, ρ, _, o, hs, fun H1 b e1 w1 q1 => ?_⟩
  have ec : Ext aw (cut H B) (cut H1 B) := cut_ext e1
  cases b with
  | true => exact ⟨G, B, ρ, P, o.grow e1 w1, q1, fun σ2 H2 ρ2 B2 o2 e2 q2 => k1 σ2 H2 ρ2 B2 o2 (ec.trans e2) q2, k2, fun σ2 H2 ρ2 B2 o2 e2 q2 => k3 σ2 H2 ρ2 B2 o2 (ec.trans e2) q2, fun σ2 H2 ρ2 B2 o2 e2 q2 => k4 σ2 H2 ρ2 B2 o2 (ec.trans e2) q2⟩
  | false => exact ⟨G, B, ρ, P, o.grow e1 w1, q1, fun σ2 H2 ρ2 B2 o2 e2 q2 => k1 σ2 H2 ρ2 B2 o2 (ec.trans e2) q2, k2, fun σ2 H2 ρ2 B2 o2 e2 q2 => k3 σ2 H2 ρ2 B2 o2 (ec.trans e2) q2, fun σ2 H2 ρ2 B2 o2 e2 q2 => k4 σ2 H2 ρ2 B2 o2 (ec.trans e2) q2⟩
theorem ss_drop (he : SE X aw e m) (hs : swapsWith e none pos.line X.env = pure false := by rfl) : SS X aw (.Expr e pos) (sDrop m) := ps_to (ps_expr he hs) fun Dn σ H => by
  rintro ⟨G, B, ρ, P, o, hs, k1, k2, k3, k4⟩
  exact ⟨G, B, ρ, _, o, hs, fun v H1 d e1 w1 r1 q1 => k1 σ H1 ρ B (o.grow e1 w1) (cut_ext e1) q1⟩
theorem ss_par {i j : Nat} {st : Stmt} (h : PS X st (tPar i j (tA X.K aw ta))) : SS X aw st (sPar i j ta) := ps_to h fun Dn σ H => by
  rintro ⟨G, B, ρ, P, o, hs, k1, k2, k3, k4⟩
  refine ⟨G, B, ρ, _, o, hs, fun vs H1 ds e1 w1 r1 q1 => ?_⟩
  have o1 := o.grow e1 w1
  split at q1
  · cases r1 with
    | cons r0 rr =>
    cases rr with
    | cons r2 rr =>
    cases rr
    exact ⟨_, _, rfl, k1 _ H1 _ B ((o1.set r0 i).set r2 j) (cut_ext e1) q1⟩
  · cases q1
theorem ss_par3 {i j l : Nat} {st : Stmt} (h : PS X st (tPar3 i j l (tA X.K aw ta))) : SS X aw st (sPar3 i j l ta) := ps_to h fun Dn σ H => by
  rintro ⟨G, B, ρ, P, o, hs, k1, k2, k3, k4⟩
  refine ⟨G, B, ρ, _, o, hs, fun vs H1 ds e1 w1 r1 q1 => ?_⟩
  have o1 := o.grow e1 w1
  split at q1
  · cases r1 with
    | cons r0 rr =>
    cases rr with
    | cons r2 rr =>
    cases rr with
    | cons r3 rr =>
    cases rr
    exact ⟨_, _, _, rfl, k1 _ H1 _ B (((o1.set r0 i).set r2 j).set r3 l) (cut_ext e1) q1⟩
  · cases q1
theorem Ok.freeze {K : PySem.W.Frag} {G : Gh} {B : List Addr} {σ : L2.St} {ρ : En} {H : Hp} {i : Nat} {ds : List D} (o : Ok K aw G B σ ρ H) (h : ρ[i]? = some (.ow ds)) :
    ∃ B', Ok K aw G B' σ (ρ.set i (.va (.list ds))) H ∧ Ext aw (cut H B) (cut H B') := by
  obtain ⟨p, xs, e, hp, h0, hc, hx, r⟩ := o.getO h
  have s : ∀ a ∈ B.filter (· ≠ p), a ∈ B := fun a ha => (List.mem_filter.mp ha).1
  have np : p ∉ B.filter (· ≠ p) := fun z => by simpa using (List.mem_filter.mp z).2
  have ec : Ext aw (cut H B) (cut H (B.filter (· ≠ p))) := cut_less s
  refine ⟨B.filter (· ≠ p), ⟨o.ext, o.wld.ext ec ?_, fun q hq => ?_, fun q hq => o.own q (s q hq), by simp [o.len], fun j sl hs => ?_, fun j k q es fs h1 h2 h3 h4 => ?_⟩, ec⟩
  · intro a ea
    unfold cut
    rw [if_neg (o.awB a ea), if_neg fun z => o.awB a ea (s _ z)]
  · refine List.mem_filter.mpr ⟨o.sub q hq, ?_⟩
    simp only [ne_eq, decide_not, Bool.not_eq_eq_eq_not, Bool.not_true, decide_eq_false_iff_not]
    exact fun z => hc (z ▸ hq)
  · by_cases ej : i = j
    · subst ej
      have hi : i < ρ.length := (List.getElem?_eq_some_iff.mp h).1
      rw [List.getElem?_set_self hi] at hs
      cases hs
      rw [e]
      exact ⟨_, rfl, .lst (cut_of hx np) (r.ext o.wld.ne ec)⟩
    · rw [List.getElem?_set_ne ej] at hs
      have q := o.env j sl hs
      cases sl with
      | no => trivial
      | va d => obtain ⟨v, e1, r1⟩ := q; exact ⟨v, e1, r1.ext o.wld.ne ec⟩
      | ow es =>
        obtain ⟨p', xs', e1, hp', h0', hc', hx', r'⟩ := q
        refine ⟨p', xs', e1, List.mem_filter.mpr ⟨hp', ?_⟩, h0', hc', hx', r'.ext o.wld.ne ec⟩
        simp only [ne_eq, decide_not, Bool.not_eq_eq_eq_not, Bool.not_true, decide_eq_false_iff_not]
        intro z
        subst z
        have e1' : σ[j]? = some (some (V.ref p')) := by
          cases q : σ[j]? with
          | none => rw [q] at e1; cases e1
          | some sv => rw [q] at e1; exact congrArg some e1
        exact ej (o.apart i j p' ds es h hs e e1')
  · obtain ⟨n1, h1⟩ := set_ow (fun _ z => by cases z) h1
    obtain ⟨n2, h2⟩ := set_ow (fun _ z => by cases z) h2
    exact o.apart j k q es fs h1 h2 h3 h4
theorem ss_freeze {i : Nat} (h : SSs X aw sts s) : SSs X aw sts (sFreeze i s) := pss_to h fun Dn σ H => by
  rintro ⟨G, B, ρ, P, o, hs, k1, k2, k3, k4⟩
  unfold sFreeze at hs
  split at hs
  · rename_i ds hd
    obtain ⟨B', o', ec⟩ := o.freeze hd
    exact ⟨G, B', _, P, o', hs, fun σ2 H2 ρ2 B2 o2 e2 q2 => k1 σ2 H2 ρ2 B2 o2 (ec.trans e2) q2, k2, fun σ2 H2 ρ2 B2 o2 e2 q2 => k3 σ2 H2 ρ2 B2 o2 (ec.trans e2) q2, fun σ2 H2 ρ2 B2 o2 e2 q2 => k4 σ2 H2 ρ2 B2 o2 (ec.trans e2) q2⟩
  · cases hs
end


/-! ### what is walked -/
/-- J walks ds while Hw stands; what it yields is worth its datum over Hv -/
structure Walk (K : PySem.W.Frag) (aw : Option Addr) (J : It) (Hw Hv : Hp) (ds : List D) : Prop where
  go : ∀ (i : Nat) (H : Hp) (d : D), Ext aw Hw H → ds[i]? = some d → J.go i H
  yld : ∀ (i : Nat) (H : Hp) (x : V) (H' : Hp) (d : D), Ext aw Hw H → ds[i]? = some d → J.yld i H x H' → H' = H ∧ Rp K aw Hv x d
  stop : ∀ (i : Nat) (H : Hp), Ext aw Hw H → ds.length ≤ i → J.stop i H
def tI (K : PySem.W.Frag) (aw : Option Addr) (it : En → M (List D)) : TI := fun σ H R => ∃ G B ρ Q, Ok K aw G B σ ρ H ∧ it ρ Q ∧ ∀ J H' ds Hv, Ext aw H H' → World aw (cut H' B) → Walk K aw J Hv Hv ds → World aw Hv → Ext aw Hv (cut H' B) → Q ds → R J H'
def tIc (K : PySem.W.Frag) (aw : Option Addr) (it : En → M (List D)) : TI := fun σ H R => ∃ G B ρ Q, Ok K aw G B σ ρ H ∧ it ρ Q ∧ ∀ J H' ds Hw Hv, Ext aw H H' → World aw (cut H' B) → Walk K aw J Hw Hv ds → World aw Hw → World aw Hv → Ext aw Hw H' → Ext aw Hv (cut H' B) → Q ds → R J H'
abbrev SI (X : Cx) (aw : Option Addr) (tg it : Expr) (m : En → M (List D)) : Prop := PI X tg it (tI X.K aw m)
abbrev SIc (X : Cx) (aw : Option Addr) (tg it : Expr) (m : En → M (List D)) : Prop := PI X tg it (tIc X.K aw m)
theorem pi_to {X : Cx} {tg e : Expr} {t t' : TI} (h : PI X tg e t) (i : ∀ σ H R, t' σ H R → t σ H R) : PI X tg e t' := ⟨fun pins s σ H R I q => h.run pins s σ H R I (i σ H R q)⟩
theorem cut_sub {aw : Option Addr} {H : Hp} {B : List Addr} : Ext aw (cut H B) H := ⟨fun a o _ h => (cut_some h).1, fun _ _ kvs h => ⟨kvs, (cut_some h).1⟩⟩
section
variable {X : Cx} {aw : Option Addr} {tg it : Expr} {m : En → M (List D)}
theorem si_c (h : SI X aw tg it m) : SIc X aw tg it m := pi_to h fun σ H R => by
  rintro ⟨G, B, ρ, Q, o, hm, k⟩
  exact ⟨G, B, ρ, Q, o, hm, fun J H' ds Hv e w W wv ev q => k J H' ds Hv Hv e w W wv wv (ev.trans cut_sub) ev q⟩
end
def itL (m : En → M D) : En → M (List D) := fun ρ Q => m ρ fun d => match d with
  | .list ds => Q ds
  | _ => False
def itT (m : En → M D) : En → M (List D) := fun ρ Q => m ρ fun d => match d with
  | .tuple ds => Q ds
  | _ => False
def rngD (a : Int) (n : Nat) : List D := (List.range n).map fun i : Nat => PyData.int (a + (i : Int))
def itR1 (t : En → M (List D)) : En → M (List D) := fun ρ Q => t ρ fun ds => match ds with
  | [.int b] => b ≤ 100000 ∧ -100000 ≤ b ∧ Q (rngD 0 b.toNat)
  | _ => False
def itR2 (t : En → M (List D)) : En → M (List D) := fun ρ Q => t ρ fun ds => match ds with
  | [.int a, .int b] => (a ≤ 100000 ∧ -100000 ≤ a) ∧ (b ≤ 100000 ∧ -100000 ≤ b) ∧ Q (rngD a (b - a).toNat)
  | _ => False
section
variable {X : Cx} {aw : Option Addr} {tg e a b : Expr} {m : En → M D} {t : En → M (List D)} {p pos : Pos}
theorem walk_list {K : PySem.W.Frag} {H : Hp} {a : Addr} {xs : List V} {ds : List D} (hw : NT H aw) (h : H a = some (.lst xs)) (r : RpA K aw H xs ds) : Walk K aw (Itl K a) H H ds := by
  refine ⟨fun i H' d e hd => ?_, fun i H' x H2 d e hd hy => ?_, fun i H' e hi => ?_⟩
  · obtain ⟨v, hv, _⟩ := r.get hd
    exact ⟨xs, v, .inl (.inl (e.ap a _ fx_lst h)), hv⟩
  · obtain ⟨e2, f⟩ := hy
    obtain ⟨v, hv, rv⟩ := r.get hd
    have := f xs (.inl (.inl (e.ap a _ fx_lst h)))
    rw [hv] at this
    cases this
    exact ⟨e2, rv⟩
  · exact ⟨xs, .inl (.inl (e.ap a _ fx_lst h)), by rw [r.length]; exact hi⟩
theorem walk_tup {K : PySem.W.Frag} {H : Hp} {a : Addr} {xs : List V} {ds : List D} (hw : NT H aw) (h : SqT K H a xs) (r : RpA K aw H xs ds) : Walk K aw (Itt K a) H H ds := by
  refine ⟨fun i H' d e hd => ?_, fun i H' x H2 d e hd hy => ?_, fun i H' e hi => ?_⟩
  · obtain ⟨v, hv, _⟩ := r.get hd
    exact ⟨xs, v, sqT_ext hw e h, hv⟩
  · obtain ⟨e2, f⟩ := hy
    obtain ⟨v, hv, rv⟩ := r.get hd
    have := f xs (sqT_ext hw e h)
    rw [hv] at this
    cases this
    exact ⟨e2, rv⟩
  · exact ⟨xs, sqT_ext hw e h, by rw [r.length]; exact hi⟩
theorem walk_rng {K : PySem.W.Frag} {H : Hp} {a : Int} {n : Nat} : Walk K aw (Itr a n) H H (rngD a n) := by
  have l : (rngD a n).length = n := by simp [rngD]
  refine ⟨fun i H' d e hd => ?_, fun i H' x H2 d e hd hy => ?_, fun i H' e hi => ?_⟩
  · have := (List.getElem?_eq_some_iff.mp hd).1
    rw [l] at this
    exact this
  · obtain ⟨e2, f⟩ := hy
    subst f
    refine ⟨e2, ?_⟩
    obtain ⟨h1, h2⟩ := List.getElem?_eq_some_iff.mp hd
    simp only [rngD, List.getElem_map, List.getElem_range] at h2
    subst h2
    exact .int _
  · show n ≤ i
    rw [l] at hi
    exact hi
theorem si_list (h : SE X aw e m) : SI X aw tg e (itL m) := pi_to (pi_list h) fun σ H R => by
  rintro ⟨G, B, ρ, Q, o, hm, k⟩
  refine ⟨G, B, ρ, _, o, hm, fun v H1 d e1 w1 r1 q1 => ?_⟩
  cases d with
  | list ds =>
    cases r1 with
    | lst h1 r2 => exact ⟨_, rfl, ⟨_, .inl (.inl (cut_some h1).1)⟩, k _ H1 ds _ e1 w1 (walk_list w1.ne h1 r2) w1 (.refl _ _) q1⟩
  | _ => cases q1
theorem si_tup (h : SE X aw e m) : SI X aw tg e (itT m) := pi_to (pi_tup h) fun σ H R => by
  rintro ⟨G, B, ρ, Q, o, hm, k⟩
  refine ⟨G, B, ρ, _, o, hm, fun v H1 d e1 w1 r1 q1 => ?_⟩
  cases d with
  | tuple ds =>
    cases r1 with
    | tup h1 r2 => exact ⟨_, rfl, ⟨_, sqT_less h1⟩, k _ H1 ds _ e1 w1 (walk_tup w1.ne h1 r2) w1 (.refl _ _) q1⟩
  | _ => cases q1
theorem si_rng1 (hg : Gl X "range") (hm : X.mg "range" = none) (ha : SA X aw [a] t) (hs : starEach [a] X.env = [(false, eval a X.env)] := by rfl) : SI X aw tg (.Call (.Name "range" p) [a] [] pos) (itR1 t) := pi_to (pi_range1 hg hm ha hs) fun σ H R => by
  rintro ⟨G, B, ρ, Q, o, hm, k⟩
  refine ⟨G, B, ρ, _, o, hm, fun vs H1 ds e1 w1 r1 q1 => ?_⟩
  split at q1
  · cases r1 with
    | cons r0 rr =>
    cases rr
    cases r0
    exact ⟨_, rfl, by omega, by omega, k _ H1 _ _ e1 w1 walk_rng w1 (.refl _ _) q1.2.2⟩
  · cases q1
theorem si_rng2 (hg : Gl X "range") (hm : X.mg "range" = none) (ha : SA X aw [a, b] t) (hs : starEach [a, b] X.env = [(false, eval a X.env), (false, eval b X.env)] := by rfl) (hs2 : starEach [b] X.env = [(false, eval b X.env)] := by rfl) : SI X aw tg (.Call (.Name "range" p) [a, b] [] pos) (itR2 t) := pi_to (pi_range2 hg hm ha hs hs2) fun σ H R => by
  rintro ⟨G, B, ρ, Q, o, hm, k⟩
  refine ⟨G, B, ρ, _, o, hm, fun vs H1 ds e1 w1 r1 q1 => ?_⟩
  split at q1
  · cases r1 with
    | cons r0 rr =>
    cases rr with
    | cons r3 rr =>
    cases rr
    cases r0
    cases r3
    exact ⟨_, _, rfl, ⟨by omega, by omega, by omega, by omega⟩, k _ H1 _ _ e1 w1 walk_rng w1 (.refl _ _) q1.2.2⟩
  · cases q1
end

/-! ### loops -/
def forW (g : MG) (b : MS) : List D → En → Po → Prop
  | [], ρ, P => P.nx ρ
  | d :: ds, ρ, P => g d ρ fun ρ1 => b ρ1 { nx := fun ρ2 => forW g b ds ρ2 P, rt := P.rt, bk := P.nx, ct := fun ρ2 => forW g b ds ρ2 P }
def sFor (it : En → M (List D)) (g : MG) (b : MS) : MS := fun ρ P => it ρ fun ds => forW g b ds ρ P
def whileW (c : En → M Bool) (b : MS) : Nat → En → Po → Prop
  | 0, _, _ => False
  | n + 1, ρ, P => c ρ fun x => if x = true then b ρ { nx := fun ρ2 => whileW c b n ρ2 P, rt := P.rt, bk := P.nx, ct := fun ρ2 => whileW c b n ρ2 P } else P.nx ρ
def sWhile (c : En → M Bool) (b : MS) : MS := fun ρ P => ∃ n, whileW c b n ρ P
section
variable {X : Cx} {aw : Option Addr} {tg it c : Expr} {m : En → M (List D)} {g : MG} {b : MS} {is : List Nat} {body : List Stmt} {pos : Pos} {tt : En → M Bool}
theorem ss_for (hp : PassesOwn (model X.prog X.w) X.A X.env X.xe) (hc : X.calm = true) (hi : SI X aw tg it m) (hg : SG X aw is tg g) (hb : SSs X aw body b) (hs : ∀ x, foldedSetIterable it X.env x = pure x := by intro _; rfl) : SS X aw (.For tg it body [] pos) (sFor m g b) :=
  ps_to (ps_for hp hc hi hg hb hs) fun Dn σ H => by
    rintro ⟨G, B, ρ, P, o, hm, k1, k2, k3, k4⟩
    refine ⟨G, B, ρ, _, o, hm, fun J H1 ds Hv e1 w1 W wv ev q1 => ?_⟩
    have o1 := o.grow e1 w1
    have ec : Ext aw (cut H B) (cut H1 B) := cut_ext e1
    refine ⟨fun i n σ' H' => ∃ ρ' B', Ok X.K aw G B' σ' ρ' H' ∧ Ext aw (cut H1 B) (cut H' B') ∧ i + n = ds.length ∧ forW g b (ds.drop i) ρ' P, ⟨ds.length, ρ, B, o1, .refl _ _, by omega, by rw [List.drop_zero]; exact q1⟩, ?_⟩
    rintro i n σ' H' ⟨ρ', B', o', x', hl, q⟩
    have evH : Ext aw Hv H' := (ev.trans x').trans cut_sub
    by_cases hi : i < ds.length
    · have hd : ds[i]? = some ds[i] := List.getElem?_eq_getElem hi
      rw [List.drop_eq_getElem_cons hi] at q
      refine .inr ⟨W.go i H' _ evH hd, fun σ2 H2 => ∃ ρ2 B2, Ok X.K aw G B2 σ2 ρ2 H2 ∧ Ext aw (cut H1 B) (cut H2 B2) ∧ forW g b (ds.drop (i + 1)) ρ2 P, ?_, fun x H2 hy => ?_⟩
      · rintro σ2 H2 ⟨ρ2, B2, o2, x2, q2⟩
        exact ⟨n - 1, by omega, ρ2, B2, o2, x2, by omega, q2⟩
      · obtain ⟨e2, r⟩ := W.yld i H' x H2 _ evH hd hy
        subst e2
        refine ⟨G, B', ρ', ds[i], _, o', r.ext wv.ne (ev.trans x'), q, fun σ3 ρ3 o3 _ q3 => ?_⟩
        refine ⟨G, B', ρ3, _, o3, q3, fun σ4 H4 ρ4 B4 o4 e4 q4 => ⟨ρ4, B4, o4, x'.trans e4, q4⟩, k2, fun σ4 H4 ρ4 B4 o4 e4 q4 => k1 σ4 H4 ρ4 B4 o4 (ec.trans (x'.trans e4)) q4, fun σ4 H4 ρ4 B4 o4 e4 q4 => ⟨ρ4, B4, o4, x'.trans e4, q4⟩⟩
    · rw [List.drop_of_length_le (by omega)] at q
      exact .inl ⟨W.stop i H' evH (by omega), k1 σ' H' ρ' B' o' (ec.trans x') q⟩
theorem ss_while (hp : PassesOwn (model X.prog X.w) X.A X.env X.xe) (hc : ST X aw c tt) (hb : SSs X aw body b) : SS X aw (.While c body [] pos) (sWhile tt b) :=
  ps_to (ps_while hp hc hb) fun Dn σ H => by
    rintro ⟨G, B, ρ, P, o, ⟨n0, hm⟩, k1, k2, k3, k4⟩
    refine ⟨fun n σ' H' => ∃ ρ' B', Ok X.K aw G B' σ' ρ' H' ∧ Ext aw (cut H B) (cut H' B') ∧ whileW tt b n ρ' P, ⟨n0, ρ, B, o, .refl _ _, hm⟩, ?_⟩
    rintro n σ' H' ⟨ρ', B', o', x', q⟩
    cases n with
    | zero => exact q.elim
    | succ n =>
    refine ⟨G, B', ρ', _, o', q, fun H2 v e2 w2 q2 => ?_⟩
    have o2 := o'.grow e2 w2
    have x2 := x'.trans (cut_ext (B := B') e2)
    cases v with
    | true =>
      refine ⟨fun σ4 H4 => ∃ ρ4 B4, Ok X.K aw G B4 σ4 ρ4 H4 ∧ Ext aw (cut H B) (cut H4 B4) ∧ whileW tt b n ρ4 P, ?_, ?_⟩
      · rintro σ4 H4 ⟨ρ4, B4, q4⟩
        exact ⟨n, Nat.lt_succ_self n, ρ4, B4, q4⟩
      · exact ⟨G, B', ρ', _, o2, q2, fun σ4 H4 ρ4 B4 o4 e4 q4 => ⟨ρ4, B4, o4, x2.trans e4, q4⟩, k2, fun σ4 H4 ρ4 B4 o4 e4 q4 => k1 σ4 H4 ρ4 B4 o4 (x2.trans e4) q4, fun σ4 H4 ρ4 B4 o4 e4 q4 => ⟨ρ4, B4, o4, x2.trans e4, q4⟩⟩
    | false => exact k1 σ' H2 ρ' B' o2 x2 q2
end


/-! ### own lists -/
section
variable {K : PySem.W.Frag} {aw : Option Addr} {G : Gh} {B : List Addr} {σ : L2.St} {ρ : En} {H H' : Hp}
theorem ne_mem {p q : Addr} (h : q ∈ B) (n : p ∉ B) : q ≠ p := fun z => n (by rw [← z]; exact h)
theorem cut_new {p : Addr} {o : HO} (hp : H p = none) : cut (upd H p o) (p :: B) = cut H B := by
  funext a
  unfold cut
  by_cases e : a = p
  · subst e
    rw [if_pos List.mem_cons_self, hp]
    split <;> rfl
  · rw [upd_ne e]
    by_cases h : a ∈ B
    · rw [if_pos h, if_pos (List.mem_cons_of_mem _ h)]
    · rw [if_neg h, if_neg fun z => (List.mem_cons.mp z).elim e h]
/-- a new list, one's own -/
theorem Ok.made (o : Ok K aw G B σ ρ H) {p : Addr} (hp : H p = none) {xs : List V} {ds : List D} (r : RpA K aw (cut H B) xs ds) (i : Nat) : Ok K aw G (p :: B) (σ.set i (some (.ref p))) (ρ.set i (.ow ds)) (upd H p (.lst xs)) := by
  have ec : cut (upd H p (.lst xs)) (p :: B) = cut H B := cut_new hp
  have npB : p ∉ B := fun z => by
    obtain ⟨ys, h⟩ := o.own p z
    rw [hp] at h; cases h
  have npaw : some p ≠ aw := fun z => by
    obtain ⟨kvs, h⟩ := o.wld.ne p z.symm
    have := (cut_some h).1
    rw [hp] at this; cases this
  have h0 : G.H0 p = none := by
    cases q : G.H0 p with
    | none => rfl
    | some u => have := o.ext.ap p u (fx_ne npaw) q; rw [hp] at this; cases this
  refine ⟨o.ext.trans (.new hp), by rw [ec]; exact o.wld, fun q hq => List.mem_cons_of_mem _ (o.sub q hq), fun q hq => ?_, by simp [o.len], fun j s hs => ?_, fun j k q es fs h1 h2 h3 h4 => ?_⟩
  · rcases List.mem_cons.mp hq with e | e
    · subst e; exact ⟨xs, upd_same⟩
    · obtain ⟨ys, h⟩ := o.own q e
      exact ⟨ys, (upd_ne (ne_mem e npB)).trans h⟩
  · by_cases e : i = j
    · subst e
      by_cases hi : i < ρ.length
      · rw [List.getElem?_set_self hi] at hs
        cases hs
        rw [List.getElem?_set_self (by rw [o.len]; exact hi)]
        exact ⟨p, xs, rfl, List.mem_cons_self, h0, fun z => npB (o.sub p z), upd_same, by rw [ec]; exact r⟩
      · rw [List.getElem?_eq_none (by simpa using hi)] at hs; cases hs
    · rw [List.getElem?_set_ne e] at hs
      rw [List.getElem?_set_ne e]
      have q := o.env j s hs
      cases s with
      | no => trivial
      | va d => obtain ⟨v, e1, r1⟩ := q; exact ⟨v, e1, by rw [ec]; exact r1⟩
      | ow es =>
        obtain ⟨p', ys, e1, hp', a1, a2, hx, r'⟩ := q
        exact ⟨p', ys, e1, List.mem_cons_of_mem _ hp', a1, a2, (upd_ne (ne_mem hp' npB)).trans hx, by rw [ec]; exact r'⟩
  · by_cases ej : i = j
    · by_cases ek : i = k
      · rw [← ej, ← ek]
      · exfalso
        rw [List.getElem?_set_ne ek] at h2 h4
        subst ej
        have hi : i < σ.length := by
          by_cases hi : i < ρ.length
          · rw [o.len]; exact hi
          · rw [List.getElem?_eq_none (by simpa using hi)] at h1; cases h1
        rw [List.getElem?_set_self hi] at h3
        have e3 : p = q := by injection h3 with h3; injection h3 with h3; injection h3
        obtain ⟨p', ys, e1, hp', _⟩ := o.getO h2
        rw [h4] at e1
        have e4 : q = p' := by injection e1 with h3; injection h3 with h3; injection h3
        exact npB (by rw [e3, e4]; exact hp')
    · by_cases ek : i = k
      · exfalso
        rw [List.getElem?_set_ne ej] at h1 h3
        subst ek
        have hi : i < σ.length := by
          by_cases hi : i < ρ.length
          · rw [o.len]; exact hi
          · rw [List.getElem?_eq_none (by simpa using hi)] at h2; cases h2
        rw [List.getElem?_set_self hi] at h4
        have e3 : p = q := by injection h4 with h3; injection h3 with h3; injection h3
        obtain ⟨p', ys, e1, hp', _⟩ := o.getO h1
        rw [h3] at e1
        have e4 : q = p' := by injection e1 with h3; injection h3 with h3; injection h3
        exact npB (by rw [e3, e4]; exact hp')
      · rw [List.getElem?_set_ne ej] at h1 h3
        rw [List.getElem?_set_ne ek] at h2 h4
        exact o.apart j k q es fs h1 h2 h3 h4
/-- the own list in a slot is another -/
theorem Ok.upd (o : Ok K aw G B σ ρ H) {i : Nat} {p : Addr} {ds es : List D} {ys : List V} (h : ρ[i]? = some (.ow ds)) (hs : σ[i]? = some (some (.ref p))) (r : RpA K aw (cut H B) ys es) : Ok K aw G B σ (ρ.set i (.ow es)) (L2.upd H p (.lst ys)) ∧ p ∈ B := by
  obtain ⟨p', xs, e, hp, h0, hc, hx, r0⟩ := o.getO h
  have ep : p' = p := by rw [hs] at e; injection e with e; injection e with e; injection e with e; exact e.symm
  subst ep
  have ec : cut (L2.upd H p' (.lst ys)) B = cut H B := cut_upd hp
  refine ⟨⟨o.ext.mut h0, by rw [ec]; exact o.wld, o.sub, fun q hq => ?_, by simp [o.len], fun j s hj => ?_, fun j k q fs gs h1 h2 h3 h4 => ?_⟩, hp⟩
  · by_cases e : q = p'
    · subst e; exact ⟨ys, upd_same⟩
    · obtain ⟨zs, hz⟩ := o.own q hq
      exact ⟨zs, by rw [upd_ne e]; exact hz⟩
  · by_cases ej : i = j
    · subst ej
      have hi : i < ρ.length := (List.getElem?_eq_some_iff.mp h).1
      rw [List.getElem?_set_self hi] at hj
      cases hj
      rw [hs]
      exact ⟨p', ys, rfl, hp, h0, hc, upd_same, by rw [ec]; exact r⟩
    · rw [List.getElem?_set_ne ej] at hj
      have q := o.env j s hj
      cases s with
      | no => trivial
      | va d => obtain ⟨v, e1, r1⟩ := q; exact ⟨v, e1, by rw [ec]; exact r1⟩
      | ow fs =>
        obtain ⟨q', zs, e1, hq', a1, a2, hz, r'⟩ := q
        have nq : q' ≠ p' := fun z => by
          subst z
          obtain ⟨q2, zs2, e2, _⟩ := o.getO hj
          have e3 : σ[j]? = some (some (V.ref q')) := by
            rw [e2] at e1 ⊢
            have : some (V.ref q2) = some (V.ref q') := e1
            rw [this]
          exact ej (o.apart i j q' ds fs h hj hs e3)
        exact ⟨q', zs, e1, hq', a1, a2, by rw [upd_ne nq]; exact hz, by rw [ec]; exact r'⟩
  · have g1 : ∀ {n : Nat} {l : List D}, (ρ.set i (Sl.ow es))[n]? = some (Sl.ow l) → ∃ l', ρ[n]? = some (Sl.ow l') := fun {n l} hn => by
      by_cases e : i = n
      · subst e; exact ⟨ds, h⟩
      · rw [List.getElem?_set_ne e] at hn; exact ⟨l, hn⟩
    obtain ⟨l1, h1⟩ := g1 h1
    obtain ⟨l2, h2⟩ := g1 h2
    exact o.apart j k q l1 l2 h1 h2 h3 h4
end
def sOwn (i : Nat) (t : En → M (List D)) : MS := fun ρ P => t ρ fun ds => ds.length ≤ 100000 ∧ P.nx (ρ.set i (.ow ds))
def sApp (i : Nat) (t : En → M (List D)) : MS := fun ρ P => match ρ[i]? with
  | some (.ow ds) => t ρ fun es => match es with
    | [d] => ds.length < 100000 ∧ P.nx (ρ.set i (.ow (ds ++ [d])))
    | _ => False
  | _ => False
def sIns (i : Nat) (t : En → M (List D)) : MS := fun ρ P => match ρ[i]? with
  | some (.ow ds) => t ρ fun es => match es with
    | [.int n, d] => ds.length < 100000 ∧ 0 ≤ n ∧ n ≤ 100000 ∧ P.nx (ρ.set i (.ow (ds.take n.toNat ++ [d] ++ ds.drop n.toNat)))
    | _ => False
  | _ => False
section
variable {X : Cx} {aw : Option Addr} {e : Expr} {es : List Expr} {t : En → M (List D)} {pos : Pos} {i : Nat} {st : Stmt}
theorem ss_own {x : Str} {p : Pos} {pl : Pos} (h : ∀ te, PE X (.List es pl) te → PS X (.Assign [.Name x p] (.List es pl) pos) (tAsg te (gName i))) (ha : SA X aw es t) : SS X aw (.Assign [.Name x p] (.List es pl) pos) (sOwn i t) := ps_to (h _ (pe_lst ha)) fun Dn σ H => by
  rintro ⟨G, B, ρ, P, o, hs, k1, k2, k3, k4⟩
  refine ⟨G, B, ρ, _, o, hs, fun vs H1 ds e1 w1 r1 q1 => ⟨by rw [r1.length]; exact le_line q1.1, fun p hp => ?_⟩⟩
  have o1 := o.grow e1 w1
  refine k1 _ _ _ _ (o1.made hp r1 i) ?_ q1.2
  rw [cut_new hp]
  exact cut_ext e1
theorem getO_V {K : PySem.W.Frag} {G : Gh} {B : List Addr} {σ : L2.St} {ρ : En} {H : Hp} {ds : List D} (o : Ok K aw G B σ ρ H) (h : ρ[i]? = some (.ow ds)) : ∃ p xs, σ[i]? = some (some (.ref p)) ∧ H p = some (.lst xs) ∧ RpA K aw (cut H B) xs ds := by
  obtain ⟨p, xs, a, _, _, _, b, c⟩ := o.getO h
  exact ⟨p, xs, a, b, c⟩
theorem ss_app (h : PS X st (tDrop (tBM X.K "list" rAppend (tVar i) (tA X.K aw t)))) : SS X aw st (sApp i t) := ps_to h fun Dn σ H => by
  rintro ⟨G, B, ρ, P, o, hs, k1, k2, k3, k4⟩
  unfold sApp at hs
  split at hs
  · rename_i ds hd
    obtain ⟨p, xs, e, hx, r⟩ := getO_V o hd
    refine ⟨_, e, .inl ⟨rfl, xs, .inl (.inl hx)⟩, G, B, ρ, _, o, hs, fun vs H1 es e1 w1 r1 q1 => ?_⟩
    split at q1
    · rename_i d
      cases r1 with
      | cons r0 rr =>
      cases rr
      have o1 := o.grow e1 w1
      obtain ⟨p', xs', e', hx', r'⟩ := getO_V o1 hd
      rw [e] at e'
      have ep : p = p' := by injection e' with e'; injection e' with e'; injection e'
      subst ep
      obtain ⟨o2, hp⟩ := o1.upd hd e (r'.app (.cons r0 .nil))
      refine ⟨p, xs', _, rfl, rfl, hx', by rw [r'.length]; exact lt_line q1.1, ?_⟩
      refine k1 _ _ _ B o2 ?_ q1.2
      rw [cut_upd hp]
      exact cut_ext e1
    · cases q1
  · cases hs
theorem ss_ins (h : PS X st (tDrop (tBM X.K "list" (fun x vs H Q => ∃ (l : Addr) (xs : List V) (i : Int) (y : V), x = .ref l ∧ vs = [.int i, y] ∧ H l = some (.lst xs) ∧ xs.length < sizeLine ∧ 0 ≤ i ∧ i < 2 ^ 63 ∧
    Q .non (upd H l (.lst (xs.take i.toNat ++ [y] ++ xs.drop i.toNat)))) (tVar i) (tA X.K aw t)))) : SS X aw st (sIns i t) := ps_to h fun Dn σ H => by
  rintro ⟨G, B, ρ, P, o, hs, k1, k2, k3, k4⟩
  unfold sIns at hs
  split at hs
  · rename_i ds hd
    obtain ⟨p, xs, e, hx, r⟩ := getO_V o hd
    refine ⟨_, e, .inl ⟨rfl, xs, .inl (.inl hx)⟩, G, B, ρ, _, o, hs, fun vs H1 es e1 w1 r1 q1 => ?_⟩
    split at q1
    · rename_i n d
      cases r1 with
      | cons r0 rr =>
      cases rr with
      | cons r2 rr =>
      cases rr
      cases r0
      have o1 := o.grow e1 w1
      obtain ⟨p', xs', e', hx', r'⟩ := getO_V o1 hd
      rw [e] at e'
      have ep : p = p' := by injection e' with e'; injection e' with e'; injection e'
      subst ep
      obtain ⟨o2, hp⟩ := o1.upd hd e (((r'.take n.toNat).app (.cons r2 .nil)).app (r'.drop n.toNat))
      refine ⟨p, xs', n, _, rfl, rfl, hx', by rw [r'.length]; exact lt_line q1.1, q1.2.1, by have := q1.2.2.1; omega, ?_⟩
      refine k1 _ _ _ B o2 ?_ q1.2.2.2
      rw [cut_upd hp]
      exact cut_ext e1
    · cases q1
  · cases hs
/-- walking an own list in a comprehension -/
def itO (i : Nat) : En → M (List D) := fun ρ Q => match ρ[i]? with
  | some (.ow ds) => Q ds
  | _ => False
theorem si_own {tg : Expr} {x : Str} {p : Pos} (h : PE X (.Name x p) (tVar i)) : SIc X aw tg (.Name x p) (itO i) := pi_to (pi_list h) fun σ H R => by
  rintro ⟨G, B, ρ, Q, o, hm, k⟩
  unfold itO at hm
  split at hm
  · rename_i ds hd
    obtain ⟨p, xs, e, hx, r⟩ := getO_V o hd
    refine ⟨_, e, p, rfl, ⟨xs, .inl (.inl hx)⟩, ?_⟩
    have ww : World aw H := o.wld.ext cut_sub (fun a ea => by unfold cut; rw [if_neg (o.awB a ea)])
    have W0 := walk_list ww.ne hx (r.ext o.wld.ne cut_sub)
    refine k _ H ds H (cut H B) (.refl _ _) o.wld ⟨W0.go, fun i H' x H2 d e hd hy => ?_, W0.stop⟩ ww o.wld (.refl _ _) (.refl _ _) hm
    obtain ⟨e2, f⟩ := hy
    obtain ⟨v, hv, rv⟩ := r.get hd
    have := f xs (.inl (.inl (e.ap p _ fx_lst hx)))
    rw [hv] at this
    cases this
    exact ⟨e2, rv⟩
  · cases hm
end
/-! ### comprehensions -/
def wipeE (ρ : En) : List Nat → En
  | [] => ρ
  | v :: vs => (wipeE ρ vs).set v .no
def lcW (g : MG) (c : En → M Bool) (m : En → M D) (ρ0 : En) : List D → List D → M (List D)
  | [], acc, Q => Q acc
  | d :: ds, acc, Q => g d ρ0 fun ρ1 => c ρ1 fun b => if b = true then m ρ1 fun y => lcW g c m ρ0 ds (acc ++ [y]) Q else lcW g c m ρ0 ds acc Q
def eLc (it : En → M (List D)) (is : List Nat) (g : MG) (c : En → M Bool) (m : En → M D) : En → M D := fun ρ Q => it ρ fun ds => ds.length < 100000 ∧ lcW g c m (wipeE ρ is) ds [] fun out => Q (.list out)
def mYes : En → M Bool := fun _ Q => Q true
section
variable {K : PySem.W.Frag} {aw : Option Addr} {G : Gh} {B : List Addr} {σ : L2.St} {ρ : En} {H H1 : Hp}
theorem wipeE_length (ρ : En) : ∀ vs : List Nat, (wipeE ρ vs).length = ρ.length
  | [] => rfl
  | v :: vs => by unfold wipeE; rw [List.length_set, wipeE_length ρ vs]
theorem wipeE_get {ρ : En} {i : Nat} {s : Sl} : ∀ {vs : List Nat}, (wipeE ρ vs)[i]? = some s → s ≠ .no → ρ[i]? = some s ∧ i ∉ vs
  | [], h, _ => ⟨h, by simp⟩
  | v :: vs, h, n => by
    unfold wipeE at h
    by_cases hi : v = i
    · subst hi
      by_cases hv : v < (wipeE ρ vs).length
      · rw [List.getElem?_set_self hv] at h; exact absurd (Option.some.inj h).symm n
      · rw [List.getElem?_eq_none (by simpa using hv)] at h; cases h
    · rw [List.getElem?_set_ne hi] at h
      obtain ⟨h1, h2⟩ := wipeE_get h n
      exact ⟨h1, by simp only [List.mem_cons, not_or]; exact ⟨fun e => hi e.symm, h2⟩⟩
/-- within a comprehension -/
theorem Ok.under (o : Ok K aw G B σ ρ H1) {Dl : Addr} (hD : H1 Dl = none) (e : Ext aw H1 H) (w : World aw (cut H (Dl :: B))) {acc : List V} (hD' : H Dl = some (.lst acc)) (vs : List Nat) :
    Ok K aw G (Dl :: B) (wipe σ vs) (wipeE ρ vs) H ∧ Ext aw (cut H1 B) (cut H (Dl :: B)) := by
  have ec : Ext aw (cut H1 B) (cut H (Dl :: B)) := ⟨fun a u n h => by
    obtain ⟨h1, h2⟩ := cut_some h
    exact cut_of (e.ap a u n h1) fun z => (List.mem_cons.mp z).elim (fun z => by rw [z, hD] at h1; cases h1) h2, fun z ez kvs h => by
    obtain ⟨h1, h2⟩ := cut_some h
    obtain ⟨k', h'⟩ := e.dk z ez kvs h1
    exact ⟨k', cut_of h' fun z => (List.mem_cons.mp z).elim (fun z => by rw [z, hD] at h1; cases h1) h2⟩⟩
  refine ⟨⟨o.ext.trans e, w, fun p hp => List.mem_cons_of_mem _ (o.sub p hp), fun p hp => ?_, by rw [wipe_length, wipeE_length]; exact o.len, fun i s hs => ?_, fun i j p ds es h1 h2 h3 h4 => ?_⟩, ec⟩
  · rcases List.mem_cons.mp hp with z | z
    · rw [z]; exact ⟨acc, hD'⟩
    · obtain ⟨xs, h⟩ := o.own p z
      exact ⟨xs, e.ap p _ fx_lst h⟩
  · cases s with
    | no => trivial
    | va d =>
      obtain ⟨h1, h2⟩ := wipeE_get hs (by simp)
      obtain ⟨v, e1, r⟩ := o.get h1
      exact ⟨v, by rw [wipe_out h2, e1]; rfl, r.ext o.wld.ne ec⟩
    | ow ds =>
      obtain ⟨h1, h2⟩ := wipeE_get hs (by simp)
      obtain ⟨p, xs, e1, hp, a1, a2, hx, r⟩ := o.getO h1
      exact ⟨p, xs, by rw [wipe_out h2, e1]; rfl, List.mem_cons_of_mem _ hp, a1, a2, e.ap p _ fx_lst hx, r.ext o.wld.ne ec⟩
  · obtain ⟨g1, n1⟩ := wipeE_get h1 (by simp)
    obtain ⟨g2, n2⟩ := wipeE_get h2 (by simp)
    rw [wipe_out n1] at h3
    rw [wipe_out n2] at h4
    exact o.apart i j p ds es g1 g2 h3 h4
end
section
variable {X : Cx} {aw : Option Addr} {elt tg iter : Expr} {ifs : List Expr} {scope : Scope} {own : List (Str × Nat)} {pos : Pos} {it : En → M (List D)} {g : MG} {c : En → M Bool} {m : En → M D}
theorem lc_reads : ∀ σ H R, tM X.K aw (eLc it (own.map (·.2)) g c m) σ H R → tLc (tIc X.K aw it) (tG X.K aw (own.map (·.2)) g) (tT X.K aw c) (tM X.K aw m) (own.map (·.2)) σ H R := fun σ H R => by
  rintro ⟨G, B, ρ, Q, o, hm, k⟩
  refine ⟨G, B, ρ, _, o, hm, fun J H1 ds Hw Hv e1 w1 W wW wv eW eV q1 => ?_⟩
  intro Dl hD
  have o1 := o.grow e1 w1
  obtain ⟨hlen, q1⟩ := q1
  have nDaw : some Dl ≠ aw := fun z => by
    obtain ⟨kvs, h⟩ := o1.wld.ne Dl z.symm
    have := (cut_some h).1
    rw [hD] at this; cases this
  refine ⟨fun i n H' => ∃ acc dacc, Ext aw H1 H' ∧ World aw (cut H' (Dl :: B)) ∧ H' Dl = some (.lst acc) ∧ RpA X.K aw (cut H' (Dl :: B)) acc dacc ∧ dacc.length ≤ i ∧ i + n = ds.length ∧ lcW g c m (wipeE ρ (own.map (·.2))) (ds.drop i) dacc fun out => Q (.list out),
    ⟨ds.length, [], [], .new hD, by rw [cut_new hD]; exact w1, upd_same, .nil, by simp, by omega, by rw [List.drop_zero]; exact q1⟩, ?_⟩
  rintro i n H' ⟨acc, dacc, e', w', hD', r', hl, hn, q⟩
  have evH : Ext aw Hw H' := eW.trans e'
  obtain ⟨ou, ec⟩ := o1.under hD e' w' hD' (own.map (·.2))
  by_cases hi : i < ds.length
  · have hd : ds[i]? = some ds[i] := List.getElem?_eq_getElem hi
    rw [List.drop_eq_getElem_cons hi] at q
    refine .inr ⟨W.go i H' _ evH hd, fun H2 => ∃ acc dacc, Ext aw H1 H2 ∧ World aw (cut H2 (Dl :: B)) ∧ H2 Dl = some (.lst acc) ∧ RpA X.K aw (cut H2 (Dl :: B)) acc dacc ∧ dacc.length ≤ i + 1 ∧ lcW g c m (wipeE ρ (own.map (·.2))) (ds.drop (i + 1)) dacc fun out => Q (.list out), ?_, fun x H2 hy => ?_⟩
    · rintro H2 ⟨acc2, dacc2, a1, a2, a3, a4, a5, a6⟩
      exact ⟨n - 1, by omega, acc2, dacc2, a1, a2, a3, a4, a5, by omega, a6⟩
    · obtain ⟨e2, r⟩ := W.yld i H' x H2 _ evH hd hy
      subst e2
      refine ⟨G, Dl :: B, _, ds[i], _, ou, r.ext wv.ne (eV.trans ec), q, fun σ3 ρ3 o3 s3 q3 => ⟨?_, ?_⟩⟩
      · have := s3.wipe
        rw [this]
        have e : ∀ (τ : L2.St) (l : List Nat), wipe (wipe τ l) l = wipe τ l := fun τ l => by
          refine List.ext_getElem? fun j => ?_
          by_cases hj : j ∈ l
          · have lw := wipe_length τ l
            have lw2 := wipe_length (wipe τ l) l
            have none_of : ∀ (τ' : L2.St), (wipe τ' l)[j]? = if j < τ'.length then some none else none := fun τ' => by
              have := wipe_length τ' l
              by_cases hl : j < τ'.length
              · rw [if_pos hl]
                cases q : (wipe τ' l)[j]? with
                | none => rw [List.getElem?_eq_none_iff] at q; omega
                | some s =>
                  cases s with
                  | none => rfl
                  | some v => exact absurd hj (wipe_some q).2
              · rw [if_neg hl, List.getElem?_eq_none (by omega)]
            rw [none_of, none_of, lw]
          · rw [wipe_out hj]
        exact e σ _
      · refine ⟨G, Dl :: B, ρ3, _, o3, q3, fun H3 b e3 w3 q4 => ?_⟩
        have o4 := o3.grow e3 w3
        have hD3 : H3 Dl = some (.lst acc) := e3.ap Dl _ fx_lst hD'
        have r3 : RpA X.K aw (cut H3 (Dl :: B)) acc dacc := r'.ext w'.ne (cut_ext e3)
        cases b with
        | true =>
          refine ⟨G, Dl :: B, ρ3, _, o4, q4, fun y H4 d e5 w5 r5 q5 => ⟨acc, e5.ap Dl _ fx_lst hD3, by rw [r3.length]; exact lt_line (by omega), ?_⟩⟩
          have hD4 : Dl ∈ Dl :: B := List.mem_cons_self
          refine ⟨acc ++ [y], dacc ++ [d], (((e'.trans e3).trans e5).mut hD), by rw [cut_upd hD4]; exact w5, upd_same, by rw [cut_upd hD4]; exact (r3.ext w3.ne (cut_ext e5)).app (.cons r5 .nil), by simp; omega, q5⟩
        | false => exact ⟨acc, dacc, e'.trans e3, w3, hD3, r3, by omega, q4⟩
  · rw [List.drop_of_length_le (by omega)] at q
    refine .inl ⟨W.stop i H' evH (by omega), ?_⟩
    have el : Ext aw (cut H' (Dl :: B)) (cut H' B) := cut_less fun a ha => List.mem_cons_of_mem _ ha
    have nB : Dl ∉ B := fun z => by
      obtain ⟨xs, h⟩ := o1.own Dl z
      rw [hD] at h; cases h
    have wB : World aw (cut H' B) := w'.ext el (fun a ea => by
      unfold cut
      rw [if_neg (o1.awB a ea), if_neg fun z => (List.mem_cons.mp z).elim (fun y => nDaw (by rw [← y]; exact ea.symm)) (o1.awB a ea)])
    exact k _ H' _ (e1.trans e') wB (.lst (cut_of hD' nB) (r'.ext w'.ne el)) q
theorem pts_to {X : Cx} {e : List Expr} {t t' : TT} (h : PTs X e t) (i : ∀ σ H R, t' σ H R → t σ H R) : PTs X e t' := ⟨fun pins s σ H Q I q => h.run pins s σ H Q I (i σ H Q q)⟩
theorem sts_nil : PTs X [] (tT X.K aw mYes) := pts_to pts_nil fun σ H R => by
  rintro ⟨G, B, ρ, Q, o, hm, k⟩
  exact k H true (.refl _ _) o.wld hm
theorem sts_one {e : Expr} (h : ST X aw e c) : PTs X [e] (tT X.K aw c) := pts_one h
/-- [elt for tg in iter if ..] -/
theorem se_lc (hc : X.calm = true) (hN : X.N.Nodup) (ok : BlkOk X.N X.env.scope scope own) (hi : SIc X aw tg iter it)
    (hg : ∀ (s : Shared) (H : Hp) (C : Addr) (cl : List (Str × Addr)) (fp : List Addr), SG (X.blk s H scope (compEnvC scope cl C X.env) fp) aw (own.map (·.2)) tg g) (ht : ∀ (s : Shared) (H : Hp) (C : Addr) (cl : List (Str × Addr)) (fp : List Addr), PTs (X.blk s H scope (compEnvC scope cl C X.env) fp) ifs (tT X.K aw c))
    (he : ∀ (s : Shared) (H : Hp) (C : Addr) (cl : List (Str × Addr)) (fp : List Addr), SE (X.blk s H scope (compEnvC scope cl C X.env) fp) aw elt m) (hs : ∀ x, foldedSetIterable iter X.env x = pure x := by intro _; rfl) :
    SE X aw (.ListComp elt [⟨tg, iter, ifs, 0⟩] scope pos) (eLc it (own.map (·.2)) g c m) := pe_to (pe_lc hc hN hi ok hg ht he hs) lc_reads
/-- name = [..] on one line -/
theorem ss_lc {i : Nat} {y : Str} {py spos : Pos} (hc : X.calm = true) (hN : X.N.Nodup) (ok : BlkOk X.N X.env.scope scope own) (hy : X.N[i]? = some y) (hyl : X.env.scope.names.lookup y = some .local)
    (hsw : swapsWith (.ListComp elt [⟨tg, iter, ifs, 0⟩] scope pos) (some (.Name y py)) spos.line X.env = pure true) (hi : SIc X aw tg iter it)
    (hg : ∀ (s : Shared) (H : Hp) (C : Addr) (cl : List (Str × Addr)) (fp : List Addr), SG (X.blk s H scope (compEnvC scope cl C X.env) fp) aw (own.map (·.2)) tg g) (ht : ∀ (s : Shared) (H : Hp) (C : Addr) (cl : List (Str × Addr)) (fp : List Addr), PTs (X.blk s H scope (compEnvC scope cl C X.env) fp) ifs (tT X.K aw c))
    (he : ∀ (s : Shared) (H : Hp) (C : Addr) (cl : List (Str × Addr)) (fp : List Addr), SE (X.blk s H scope (compEnvC scope cl C X.env) fp) aw elt m) (hs : ∀ x, foldedSetIterable iter X.env x = pure x := by intro _; rfl) :
    SS X aw (.Assign [.Name y py] (.ListComp elt [⟨tg, iter, ifs, 0⟩] scope pos) spos) (sAsg (eLc it (own.map (·.2)) g c m) (mgName i)) := ps_to (ps_setLc hc hN hy hyl hsw hi ok hg ht he hs) fun Dn σ H => by
  rintro ⟨G, B, ρ, P, o, hs, k1, k2, k3, k4⟩
  refine lc_reads (X := X) σ H _ ⟨G, B, ρ, _, o, hs, fun v H1 d e1 w1 r1 q1 => ?_⟩
  exact k1 _ H1 _ B ((o.grow e1 w1).set r1 i) (cut_ext e1) q1
end


/-! ### constants of the module -/
def Kst (K : PySem.W.Frag) (mg : Str → Option Value) (x : Str) (d : D) : Prop := ∃ v u, mg x = some u ∧ RelV v u ∧ ∀ aw H, Rp K aw H v d
theorem se_glob {X : Cx} {aw : Option Addr} {x : Str} {pos : Pos} {d : D} (h : Kst X.K X.mg x d) (hg : Gl X x) (hd : (x == ("__debug__" : Str)) = false := by decide) : SE X aw (.Name x pos) (eC d) := by
  obtain ⟨v, u, h1, h2, h3⟩ := h
  exact se_c (pe_glob hg h1 h2 hd) fun H => h3 aw H
theorem kst_pair {K : PySem.W.Frag} {mg : Str → Option Value} {x : Str} {c : Addr} {i j : Int} {t u : Tok} {dd : Option Addr} {n : Nat} {sl : Array (Option Value)} (hm : mg x = some (.ref c)) (hk : K.lookup c = some ⟨.type "tuple", dd, .seq #[.int i t, .int j u] n, sl⟩) : Kst K mg x (.tuple [.int i, .int j]) :=
  ⟨.ref c, _, hm, rfl, fun aw H => .tup (xs := [.int i, .int j]) (.inr ⟨_, _, _, hk, rfl, rfl, (show 2 ≤ sizeLine by decide), .cons ⟨t, rfl⟩ (.cons ⟨u, rfl⟩ .nil)⟩) (.cons (.int i) (.cons (.int j) .nil))⟩

/-! ### a def by its body -/
def env0 (nl : Nat) (ds : List D) : En := ds.map .va ++ List.replicate (nl - ds.length) .no
def bodyF (nl : Nat) (s : MS) : List D → M D := fun ds Q => s (env0 nl ds) { nx := fun _ => Q .none, rt := Q, bk := fun _ => False, ct := fun _ => False }
section
variable {P : Program} {w : PySem.World} {K : PySem.W.Frag} {mg : Str → Option Value} {base : Heap}
theorem ok_start {aw : Option Addr} {H : Hp} {B : List Addr} {vs : List V} {ds : List D} {N : List Str} (w : World aw (cut H B)) (hB : ∀ p ∈ B, ∃ xs, H p = some (.lst xs)) (r : RpA K aw (cut H B) vs ds) : Ok K aw ⟨H, B⟩ B (L2.start N vs) (env0 N.length ds) H := by
  have hl := r.length
  refine ⟨.refl _ _, w, fun _ h => h, hB, by simp [L2.start, env0, hl], fun i s hs => ?_, fun i j p as es h1 _ _ _ => ?_⟩
  · unfold env0 at hs
    unfold L2.start
    by_cases hi : i < ds.length
    · rw [List.getElem?_append_left (by simpa using hi), List.getElem?_map] at hs
      cases e : ds[i]? with
      | none => rw [e] at hs; cases hs
      | some d =>
        rw [e] at hs
        cases hs
        obtain ⟨v, hv, rv⟩ := r.get e
        refine ⟨v, ?_, rv⟩
        rw [List.getElem?_append_left (by simpa [hl] using hi), List.getElem?_map, hv]
        rfl
    · rw [List.getElem?_append_right (by simpa using hi), List.getElem?_replicate] at hs
      split at hs
      · cases hs; trivial
      · cases hs
  · exfalso
    unfold env0 at h1
    by_cases hi : i < ds.length
    · rw [List.getElem?_append_left (by simpa using hi), List.getElem?_map] at h1
      cases e : ds[i]? with
      | none => rw [e] at h1; cases h1
      | some d => rw [e] at h1; cases h1
    · rw [List.getElem?_append_right (by simpa using hi), List.getElem?_replicate] at h1
      split at h1 <;> cases h1
theorem df_of {x qual : Str} {st : Stmt} {f : Addr} {fd : FuncData} {N ps : List Str} {n k nl : Nat} {s : MS} (F : Fun K x qual st f fd) (S : FnScope N ps (defScope st)) (hn : ps.length = n) (hnl : N.length = nl) (gm : mg x = some (.ref f)) (b : Binds K fd ps [])
    (hb : ∀ (cdv : Value) (A : Around) (outer : List Env) (s0 : Shared) (H : Hp) (E : XK) (aw : Option Addr), Room k (A.deeper (envOfC qual (defScope st) s0.heap.objs.size f cdv)) → SSs (cxOf CX0 P w K mg base N qual (defScope st) f cdv A outer s0 H E).nox aw (defBody st) s) :
    Df P w K mg base x n (k + 1) (bodyF nl s) := by
  subst hn hnl
  refine ⟨f, fd, ps, rfl, gm, F.kp, b, F.ok S (fun vs H Q E h => ?_) (fun cdv A outer s0 H vs Q E hr h => ?_)⟩
  · obtain ⟨_, _, _, _, h, _⟩ := h
    exact h
  · obtain ⟨aw, B, ds, P', hl, wl, hB, r, hF, q⟩ := h
    refine ⟨_, hb cdv A outer s0 H E aw hr, ⟨H, B⟩, B, env0 N.length ds, _, ok_start wl hB r, hF, fun σ' H' ρ' B' o' e' q' => ?_, fun v H' d e' w' r' q' => q v H' d e' w' r' q', fun _ _ _ _ _ _ z => z.elim, fun _ _ _ _ _ _ z => z.elim⟩
    obtain ⟨w2, r2⟩ := ret_less o' (.non)
    exact q .non H' .none o'.ext w2 r2 q'
end


def fSubB : D → D → M D := fun x y Q => match x, y with
  | .bool a, .bool b => Q (.int ((if a = true then 1 else 0) - (if b = true then 1 else 0)))
  | _, _ => False
def intsOf : List D → Option (List Int)
  | [] => some []
  | .int b :: ds => (intsOf ds).map (b :: ·)
  | _ => none
/-- an int in a tuple of ints -/
def fInT (neg : Bool) : D → D → M D := fun x y Q => match x, y with
  | .int i, .tuple ds => match intsOf ds with
    | some js => Q (.bool (if neg then !(js.any fun j => j == i) else js.any fun j => j == i))
    | none => False
  | _, _ => False
section
variable {X : Cx} {K : PySem.W.Frag} {aw : Option Addr} {a b : Expr} {m n : En → M D} {pos : Pos}
theorem op_subB : OpR X (binaryOp .Sub) (fun x y H Q => ∃ i j, x = .bl i ∧ y = .bl j ∧ Q (.int ((if i = true then 1 else 0) - (if j = true then 1 else 0))) H) := by
  intro pins s σ H x y v u Q I rx ry h
  obtain ⟨i, k, rfl, rfl, q⟩ := h
  cases rx
  cases ry
  exact sub_bool ⟨.int _, H, I.tok _, ⟨_, rfl⟩, by cases i <;> cases k <;> exact q⟩
theorem ok_subB : OpOk K aw (fun x y H Q => ∃ i j, x = .bl i ∧ y = .bl j ∧ Q (.int ((if i = true then 1 else 0) - (if j = true then 1 else 0))) H) fSubB := by
  intro H B x y d e Q R w hB rx ry q k
  unfold fSubB at q
  split at q
  · cases rx
    cases ry
    exact ⟨_, _, rfl, rfl, k _ H _ (.refl _ _) w (.int _) q⟩
  · cases q
theorem se_subB (ha : SE X aw a m) (hb : SE X aw b n) : SE X aw (.BinOp a .Sub b pos) (eOp fSubB m n) := se_op op_subB ok_subB ha hb
theorem ints_rp {H : Hp} : ∀ {ds : List D} {bs : List Int} {xs : List V}, intsOf ds = some bs → RpA K aw H xs ds → xs = bs.map V.int
  | [], _, _, e, r => by cases r; cases e; rfl
  | .int b :: ds, bs, _, e, r => by
    unfold intsOf at e
    cases q : intsOf ds with
    | none => rw [q] at e; cases e
    | some cs =>
      rw [q] at e
      cases e
      cases r with
      | cons r0 rr =>
      cases r0
      rw [ints_rp q rr]
      rfl
  | .none :: _, _, _, e, _ => by cases e
  | .bool _ :: _, _, _, e, _ => by cases e
  | .str _ :: _, _, _, e, _ => by cases e
  | .list _ :: _, _, _, e, _ => by cases e
  | .tuple _ :: _, _, _, e, _ => by cases e
  | .dict _ :: _, _, _, e, _ => by cases e
theorem inV_ints (i : Int) : ∀ js : List Int, inV (.int i) (js.map V.int) = js.any fun j => j == i
  | [] => rfl
  | j :: js => by
    have h := inV_ints i js
    unfold inV at h ⊢
    rw [List.map_cons, List.any_cons, List.any_cons, h]
    rfl
theorem flat_ints : ∀ js : List Int, (js.map V.int).all flatV = true
  | [] => rfl
  | _ :: js => by rw [List.map_cons, List.all_cons, flat_ints js]; rfl
theorem ok_inT {neg : Bool} : OpOk K aw (rIn K neg) (fInT neg) := by
  intro H B x y d e Q R w hB rx ry q k
  unfold fInT at q
  split at q
  · rename_i i ds
    split at q
    · rename_i js hj
      cases rx
      cases ry with
      | tup h1 r1 =>
      have e := ints_rp hj r1
      subst e
      exact ⟨_, _, rfl, .inr (sqT_less h1), rfl, flat_ints js, by rw [inV_ints]; exact k _ H _ (.refl _ _) w (.bl _) q⟩
    · cases q
  · cases q
theorem se_inT (ha : SE X aw a m) (hb : SE X aw b n) (hm : behindInMarks .In b = false := by with_unfolding_all rfl) : SE X aw (.Compare a [.In] [b] pos) (eOp (fInT false) m n) := se_cmp op_in_seq ok_inT ha hb hm
theorem se_notInT (ha : SE X aw a m) (hb : SE X aw b n) (hm : behindInMarks .NotIn b = false := by with_unfolding_all rfl) : SE X aw (.Compare a [.NotIn] [b] pos) (eOp (fInT true) m n) := se_cmp op_notIn_seq ok_inT ha hb hm
theorem st_inT (ha : SE X aw a m) (hb : SE X aw b n) (hm : behindInMarks .In b = false := by with_unfolding_all rfl) : ST X aw (.Compare a [.In] [b] pos) (eT (eOp (fInT false) m n)) := st_op op_in_seq ok_inT ha hb hm
theorem st_notInT (ha : SE X aw a m) (hb : SE X aw b n) (hm : behindInMarks .NotIn b = false := by with_unfolding_all rfl) : ST X aw (.Compare a [.NotIn] [b] pos) (eT (eOp (fInT true) m n)) := st_op op_notIn_seq ok_inT ha hb hm
end

/-! ### a name of one's own: name = e -/
section
variable {X : Cx} {aw : Option Addr} {e : Expr} {m : En → M D} {pos : Pos} {i : Nat}
theorem ss_set {x : Str} {p : Pos} (hN : X.N.Nodup) (hi : X.N[i]? = some x) (hx : Loc X.env.scope x) (he : SE X aw e m) (hs : swapsWith e (some (.Name x p)) pos.line X.env = pure false := by rfl) (hf : X.fn x = true ∨ X.env.scope.names.lookup x = some .local := by first | exact .inl rfl | exact .inr rfl | assumption) : SS X aw (.Assign [.Name x p] e pos) (sAsg m (mgName i)) := ps_to (ps_set hN hi hx he hs hf) fun Dn σ H => by
  rintro ⟨G, B, ρ, P, o, hs, k1, k2, k3, k4⟩
  exact ⟨G, B, ρ, _, o, hs, fun v H1 d e1 w1 r1 q1 => k1 _ H1 _ B ((o.grow e1 w1).set r1 i) (cut_ext e1) q1⟩
/-- name op= e -/
def sAug (i : Nat) (f : D → D → M D) (m : En → M D) : MS := fun ρ P => match ρ[i]? with
  | some (.va x) => m ρ fun y => f x y fun z => P.nx (ρ.set i (.va z))
  | _ => False
theorem ss_aug {x : Str} {p : Pos} {op : Operator} {r : R2} {f : D → D → M D} (ho : OpR X (inplaceOp op) r) (h : OpOk X.K aw r f) (hN : X.N.Nodup) (hi : X.N[i]? = some x) (hx : Loc X.env.scope x) (he : SE X aw e m) (hf : X.fn x = true ∨ X.env.scope.names.lookup x = some .local := by first | exact .inl rfl | exact .inr rfl | assumption) :
    SS X aw (.AugAssign (.Name x p) op e pos) (sAug i f m) := ps_to (ps_aug (ti := r) hN hi hx he (fun pins s σ H x y v u Q I rx ry q => ho pins s σ H x y v u Q I rx ry q) hf) fun Dn σ H => by
  rintro ⟨G, B, ρ, P, o, hs, k1, k2, k3, k4⟩
  unfold sAug at hs
  split at hs
  · rename_i dx hd
    obtain ⟨v, e1, r1⟩ := o.get hd
    refine ⟨v, e1, G, B, ρ, _, o, hs, fun y H1 dy e2 w2 r2 q2 => ?_⟩
    have o1 := o.grow e2 w2
    exact h H1 B v y dx dy _ _ w2 o1.own (r1.ext o.wld.ne (cut_ext e2)) r2 q2 fun z H2 dz e3 w3 r3 q3 => k1 _ H2 _ B ((o1.grow e3 w3).set r3 i) (cut_ext (e2.trans e3)) q3
  · cases hs
end


/-! ### two names at once, the first a new own list -/
def sParOwn (i j : Nat) (m : En → M D) : MS := fun ρ P => m ρ fun d => i ≠ j ∧ P.nx ((ρ.set j (.va d)).set i (.ow []))
section
variable {X : Cx} {aw : Option Addr} {e : Expr} {m : En → M D} {pl : Pos} {st : Stmt} {i j : Nat}
theorem ss_parOwn (h : ∀ ta, PA X [.List [] pl, e] ta → PS X st (tPar i j ta)) (he : SE X aw e m) (hs : starEach [.List [] pl, e] X.env = (false, eval (.List [] pl) X.env) :: starEach [e] X.env := by rfl) (hs2 : starEach [e] X.env = (false, eval e X.env) :: starEach [] X.env := by rfl) : SS X aw st (sParOwn i j m) :=
  ps_to (h _ (pa_cons (pe_lst pa_nil) (pa_cons he pa_nil hs2) hs)) fun Dn σ H => by
    rintro ⟨G, B, ρ, P, o, hs, k1, k2, k3, k4⟩
    refine ⟨Nat.zero_le _, fun p hp => ?_⟩
    -- the list stands, in no slot yet
    have o0 := o.made hp (xs := []) (ds := []) .nil ρ.length
    have e0 : ρ.set ρ.length (Sl.ow []) = ρ := List.set_eq_of_length_le (Nat.le_refl _)
    have e1 : σ.set ρ.length (some (V.ref p)) = σ := List.set_eq_of_length_le (by rw [o.len]; exact Nat.le_refl _)
    rw [e0, e1] at o0
    refine ⟨G, p :: B, ρ, _, o0, hs, fun v H1 d e w r q => ⟨_, _, rfl, ?_⟩⟩
    obtain ⟨nij, q⟩ := q
    have o1 := (o0.grow e w).set r j
    have hl : H1 p = some (.lst []) := e.ap p _ fx_lst upd_same
    have ec : Ext aw (cut H B) (cut H1 (p :: B)) := by
      have := cut_ext (B := p :: B) e
      rw [cut_new hp] at this
      exact this
    have npB : p ∉ B := fun z => by
      obtain ⟨ys, h⟩ := o.own p z
      rw [hp] at h; cases h
    have npaw : some p ≠ aw := fun z => by
      obtain ⟨kvs, h⟩ := o.wld.ne p z.symm
      have := (cut_some h).1
      rw [hp] at this; cases this
    have h0 : G.H0 p = none := by
      cases q : G.H0 p with
      | none => rfl
      | some u => have := o.ext.ap p u (fx_ne npaw) q; rw [hp] at this; cases this
    have nc : p ∉ G.Bc := fun z => npB (o.sub p z)
    rw [List.set_comm _ _ nij]
    refine k1 _ H1 _ (p :: B) ⟨o1.ext, o1.wld, o1.sub, o1.own, by simp [o1.len], fun k s hk => ?_, fun k l q es fs h1 h2 h3 h4 => ?_⟩ ec q
    · by_cases ek : i = k
      · subst ek
        by_cases hi : i < (ρ.set j (Sl.va d)).length
        · rw [List.getElem?_set_self hi] at hk
          cases hk
          rw [List.getElem?_set_self (by rw [o1.len]; exact hi)]
          exact ⟨p, [], rfl, List.mem_cons_self, h0, nc, hl, .nil⟩
        · rw [List.getElem?_eq_none (by simpa using hi)] at hk; cases hk
      · rw [List.getElem?_set_ne ek] at hk
        rw [List.getElem?_set_ne ek]
        exact o1.env k s hk
    · have other : ∀ {n : Nat} {l : List D}, i ≠ n → (ρ.set j (Sl.va d))[n]? = some (Sl.ow l) → (σ.set j (some v))[n]? = some (some (V.ref p)) → False := fun {n l} hn a b => by
        obtain ⟨nj, a⟩ := set_ow (fun _ z => by cases z) a
        rw [List.getElem?_set_ne nj] at b
        obtain ⟨p', ys, e2, hp', _⟩ := o.getO a
        rw [b] at e2
        have e4 : p = p' := by injection e2 with h3; injection h3 with h3; injection h3
        exact npB (by rw [e4]; exact hp')
      by_cases ek : i = k
      · by_cases el : i = l
        · rw [← ek, ← el]
        · exfalso
          subst ek
          rw [List.getElem?_set_ne el] at h2 h4
          have hi : i < (σ.set j (some v)).length := by
            by_cases hi : i < (ρ.set j (Sl.va d)).length
            · rw [o1.len]; exact hi
            · rw [List.getElem?_eq_none (by simpa using hi)] at h1; cases h1
          rw [List.getElem?_set_self hi] at h3
          have e3 : p = q := by injection h3 with h3; injection h3 with h3; injection h3
          exact other el h2 (by rw [e3]; exact h4)
      · by_cases el : i = l
        · exfalso
          subst el
          rw [List.getElem?_set_ne ek] at h1 h3
          have hi : i < (σ.set j (some v)).length := by
            by_cases hi : i < (ρ.set j (Sl.va d)).length
            · rw [o1.len]; exact hi
            · rw [List.getElem?_eq_none (by simpa using hi)] at h2; cases h2
          rw [List.getElem?_set_self hi] at h4
          have e3 : p = q := by injection h4 with h3; injection h3 with h3; injection h3
          exact other ek h1 (by rw [e3]; exact h3)
        · rw [List.getElem?_set_ne ek] at h1 h3
          rw [List.getElem?_set_ne el] at h2 h4
          exact o1.apart k l q es fs h1 h2 h3 h4
theorem iop_mulW : OpR X (inplaceOp .Mult) (rI CMulW fun i j => .int (i * j)) := opI fun _ _ _ _ _ _ _ hc q => imul_int q hc.ok
end

/-! ### the draws -/
/-- any int from 0 on below a number -/
def F_next : List D → M D := fun ds Q => match ds with
  | [.dict [], .int m] => 0 < m ∧ ∀ k, 0 ≤ k → k < m → Q (.int k)
  | _ => False
theorem w_put (ld : Addr) (n m : Int) : putK [((.inr "draws" : Key), V.ref ld), (.inr "at", V.int n)] (.inr "at") (V.int m) = [(.inr "draws", .ref ld), (.inr "at", .int m)] := by
  have h : ¬ ((.inr "draws" : Key) = .inr "at") := by decide +kernel
  simp [putK, h]
theorem w_at (ld : Addr) (n : Int) : valV [((.inr "draws" : Key), V.ref ld), (.inr "at", V.int n)] (.inr "at") = some (V.int n) := by
  have h : ¬ ((.inr "draws" : Key) = .inr "at") := by decide +kernel
  rw [valV_neg h, valV_pos rfl]
theorem w_draws (ld : Addr) (n : Int) : valV [((.inr "draws" : Key), V.ref ld), (.inr "at", V.int n)] (.inr "draws") = some (V.ref ld) := valV_pos rfl
/-- the world behind one more draw -/
theorem world_step {a ld : Addr} {B : List Addr} {H : Hp} {n : Int} {ns : List Int} (h1 : cut H B a = some (.dK [(.inr "draws", .ref ld), (.inr "at", .int n)])) (h2 : cut H B ld = some (.lst (ns.map V.int))) (h0 : 0 ≤ n) (hl : ns.length ≤ 100000) :
    Ext (some a) H (upd H a (.dK [(.inr "draws", .ref ld), (.inr "at", .int (n + 1))])) ∧ World (some a) (cut (upd H a (.dK [(.inr "draws", .ref ld), (.inr "at", .int (n + 1))])) B) := by
  obtain ⟨a1, a2⟩ := cut_some h1
  obtain ⟨b1, b2⟩ := cut_some h2
  have ne : ld ≠ a := fun z => by rw [z, a1] at b1; cases b1
  refine ⟨⟨fun b o f h => ?_, fun x ex kvs _ => ?_⟩, fun x ex => ?_⟩
  · by_cases e : b = a
    · rw [e, a1] at h
      exact absurd (Option.some.inj h).symm (f (by rw [e]) _)
    · rw [upd_ne e]; exact h
  · cases ex
    exact ⟨_, upd_same⟩
  · cases ex
    exact ⟨ld, n + 1, ns, cut_of upd_same a2, cut_of (by rw [upd_ne ne]; exact b1) b2, by omega, hl⟩


/-! ### the law's own def -/
def tSE (K : PySem.W.Frag) (s : MS) : TS := fun Dn σ H => ∃ aw, tS K aw s Dn σ H
theorem sse {X : Cx} {sts : List Stmt} {s : MS} (h : ∀ aw, SSs X aw sts s) : PSs X sts (tSE X.K s) := ⟨fun pins st σ H D I q => by
  obtain ⟨aw, q⟩ := q
  exact (h aw).run pins st σ H D I q⟩
abbrev scr (ns : List Int) : D := .dict [(.none, .list (ns.map PyData.int))]
def spLaw (K : PySem.W.Frag) : Sp := fun vs H Q _ => ∃ (a : Addr) (ns : List Int), vs = [.ref a] ∧ ScL K H a (ns.map V.int) ∧ ns.length ≤ 63 ∧ ∀ H', Q (.bl true) H'
theorem scl_of {K : PySem.W.Frag} {H : Hp} {a : Addr} {xs : List V} (o : Only H) (h : SqL K H a xs) : ScL K H a xs := by
  rcases h with (h | ⟨u, h⟩) | h
  · rcases o a with e | ⟨u, ys, e⟩
    · rw [h] at e; cases e
    · rw [h] at e; cases e
  · exact .inl ⟨u, h⟩
  · exact .inr h
/-- the draws: ints, not too many -/
def IsDraws (d : D) : Prop := ∃ ms : List Int, d = .list (ms.map PyData.int) ∧ ms.length ≤ 100000
theorem rp_ints {K : PySem.W.Frag} {aw : Option Addr} {H : Hp} : ∀ {ms : List Int} {xs : List V}, RpA K aw H xs (ms.map PyData.int) → xs = ms.map V.int
  | [], _, r => by cases r; rfl
  | m :: ms, _, r => by
    cases r with
    | cons r0 rr =>
    cases r0
    rw [rp_ints rr]
    rfl
theorem merge_w (ld : Addr) : mergeK [] [((.inr "draws" : Key), V.ref ld), (.inr "at", V.int 0)] = [(.inr "draws", .ref ld), (.inr "at", .int 0)] := by
  have h : ¬ ((.inr "draws" : Key) = .inr "at") := by decide +kernel
  simp [mergeK, putK, h]
/-- the reading of: w = {"draws": .., "at": 0}, then the rest -/
theorem law_reads {K : PySem.W.Frag} {H : Hp} {a : Addr} {ns : List Int} {N : List Str} {m : En → M D} {s : MS} {Q : VK} (hN : 2 ≤ N.length) (hS : ScL K H a (ns.map V.int)) (hd : m (env0 N.length [scr ns]) IsDraws)
    (hs : s (env0 N.length [scr ns, .dict []]) { nx := fun _ => False, rt := fun d => d = .bool true, bk := fun _ => False, ct := fun _ => False }) (q : ∀ H', Q (.bl true) H') :
    tSeq (tAsg (tDisp [(tC (.str "draws"), tM K none m), (tC (.str "at"), tC (.int 0))]) (gName 1)) (tSE K s) { nx := fun _ H' => Q .non H', rt := Q } (L2.start N [.ref a]) H := by
  intro p hp
  have hr : RpA K none (cut (upd H p (.dK [])) []) [.ref a] [scr ns] := by
    rw [cut_nil]
    exact .cons (.scr (hS.ext (Ext.new (aw := none) hp))) .nil
  have o1 : Ok K none ⟨upd H p (.dK []), []⟩ [] (L2.start N [.ref a]) (env0 N.length [scr ns]) (upd H p (.dK [])) := ok_start (fun _ e => nomatch e) (fun _ z => by cases z) hr
  refine ⟨_, [], _, _, o1, hd, fun v H2 d e2 w2 r2 q2 => ?_⟩
  obtain ⟨ms, rfl, hl⟩ := q2
  rw [cut_nil] at r2
  cases r2 with
  | lst h2 rr =>
  rename_i ld xs
  have ex := rp_ints rr
  subst ex
  have hp2 : H2 p = some (.dK []) := e2.ap p _ (fun z => nomatch z) upd_same
  refine ⟨hp2, [(.inr "draws", .ref ld), (.inr "at", .int 0)], rfl, (show 2 ≤ 15 by decide), ?_⟩
  rw [merge_w]
  have ne : ld ≠ p := fun z => by rw [z, hp2] at h2; cases h2
  have hp3 : (upd H2 p (.dK [(.inr "draws", .ref ld), (.inr "at", .int 0)])) p = some (.dK [(.inr "draws", .ref ld), (.inr "at", .int 0)]) := upd_same
  have w3 : World (some p) (cut (upd H2 p (.dK [(.inr "draws", .ref ld), (.inr "at", .int 0)])) []) := by
    rw [cut_nil]
    intro x ex
    cases ex
    exact ⟨ld, 0, ms, hp3, by rw [upd_ne ne]; exact h2, Int.le_refl 0, hl⟩
  have hS3 : ScL K (upd H2 p (.dK [(.inr "draws", .ref ld), (.inr "at", .int 0)])) a (ns.map V.int) := by
    have := (hS.ext (Ext.new (aw := none) hp)).ext e2
    rcases this with ⟨o, h⟩ | h
    · exact .inl ⟨o, by rw [upd_ne fun z => by rw [z, hp2] at h; cases h]; exact h⟩
    · exact .inr h
  have r3 : RpA K (some p) (cut (upd H2 p (.dK [(.inr "draws", .ref ld), (.inr "at", .int 0)])) []) [.ref a, .ref p] [scr ns, .dict []] := by
    rw [cut_nil]
    exact .cons (.scr hS3) (.cons (.wld rfl hp3) .nil)
  have o3 := ok_start (N := N) w3 (fun _ z => by cases z) r3
  have es : (L2.start N [V.ref a]).set 1 (some (V.ref p)) = L2.start N [V.ref a, V.ref p] := by
    unfold L2.start
    obtain ⟨n, hn⟩ : ∃ n, N.length = n + 2 := ⟨N.length - 2, by omega⟩
    rw [hn]
    show (some (V.ref a) :: List.replicate (n + 2 - 1) none).set 1 (some (V.ref p)) = some (V.ref a) :: some (V.ref p) :: List.replicate (n + 2 - 2) none
    have e1 : n + 2 - 1 = n + 1 := by omega
    have e2 : n + 2 - 2 = n := by omega
    rw [e1, e2, List.replicate_succ]
    rfl
  show tSE K s _ ((L2.start N [V.ref a]).set 1 (some (V.ref p))) _
  rw [es]
  refine ⟨some p, ⟨_, []⟩, [], _, _, o3, hs, fun _ _ _ _ _ _ z => z.elim, fun v H' d _ _ r q' => ?_, fun _ _ _ _ _ _ z => z.elim, fun _ _ _ _ _ _ z => z.elim⟩
  subst q'
  cases r
  exact q H'


/-! ### sorted(xs) of data -/
theorem sorted_seqD {prog : Program} {w : PySem.World} {A : Around} {E : Value → Shared → Prop} {s : Shared} {β : Type} {vs : List Value} {bs : List β} {enc : β → PyData} {R : Value → β → Prop} {l : Addr} {T : String} {o : Obj} {n : Nat} {Q : Value → Shared → Prop}
    (hT : T = "list" ∨ T = "tuple") (ho : s.heap.get? l = some o) (hc : o.cls = .type T) (hd : o.data = .seq vs.toArray n)
    (e : PySem.W.EachIs R vs bs) (er : PySem.W.EachIs (fun v b => ∃ as, Reads s.heap v (enc b) as) vs bs) (hal : PySem.W.AllAlike (bs.map enc)) (hk : PySem.W.Sortable (bs.map enc)) (hL : bs.length ≤ sizeLine)
    (hu : ∀ b, b ∈ bs → A.units + 2 + (enc b).depth < cLine)
    (h : ∀ out h' ep p, PySem.W.EachIs R out (bs.mergeSort (PySem.W.dataLe false enc)) → s.heap.get? p = none → (∀ b o, s.heap.get? b = some o → h'.get? b = some o) → h'.get? p = some (seqObj "list" out.toArray ep) → Q (.ref p) { s with heap := h' }) :
    wpAny (model prog w) A (call (.builtin "sorted") [.ref l]) Q E s := by
  have hl : vs.length = bs.length := e.length
  refine Calls.call_function_entry kind_sorted plain_sorted entry_sorted (args_sorted1 _) ?_
  unfold Builtin.«sorted»
  refine wpAny_bind (m := checkCount "sorted" 1 1 _) (wpAny_pure ?_)
  refine wpAny_bind (wpAny_collect_seq l hT ho hc hd (fun h1 k1 => ?_) (by rw [List.size_toArray, hl]; exact hL))
  rw [List.toList_toArray]
  refine wpAny_bind (wpAny_newList ?_ (by rw [hl]; exact hL))
  have hp0 : s.heap.get? h1.objs.size = none := by
    cases q : s.heap.get? h1.objs.size with
    | none => rfl
    | some u => exact absurd (Heap.lt_size (k1 _ _ q)) (Nat.lt_irrefl _)
  have hoL : (h1.push (seqObj "list" vs.toArray 0)).get? h1.objs.size = some (seqObj "list" vs.toArray 0) := Heap.get?_push_size _ rfl
  have keep : ∀ b o, s.heap.get? b = some o → b ≠ h1.objs.size ∧ (h1.push (seqObj "list" vs.toArray 0)).get? b = some o := fun b o q =>
    ⟨Nat.ne_of_lt (Heap.lt_size (k1 b o q)), Heap.get?_push_of_some _ (k1 b o q)⟩
  have er' : PySem.W.EachIs (fun v b => ∃ as, Reads (PySem.W.sortingHeap (h1.push (seqObj "list" vs.toArray 0)) h1.objs.size vs) v (enc b) as) vs bs := er.mono fun _ _ ⟨as, r⟩ => ⟨as, PyProof.Rows.Reads.keeps (fun b o q => PySem.W.sortingHeap_old (keep b o q).1 (keep b o q).2) r⟩
  refine wpAny_bind (wpAny_holding (wpAny_call_entry slot_list_sort ⟨_, hoL, rfl⟩ entry_list_sort
    (PySem.W.list_sort_vals (s := { s with heap := h1.push (seqObj "list" vs.toArray 0) }) (κ := PySem.W.dataKind (PySem.W.sortingHeap (h1.push (seqObj "list" vs.toArray 0)) h1.objs.size vs) (bs.map enc)) hoL
      (PySem.W.SortsAt.data (s := { s with heap := PySem.W.sortingHeap (h1.push (seqObj "list" vs.toArray 0)) h1.objs.size vs }) (PySem.W.each_map (R := fun v d => ∃ as, Reads (PySem.W.sortingHeap (h1.push (seqObj "list" vs.toArray 0)) h1.objs.size vs) v d as) enc er') hal hk (PySem.W.bound_map hu)) (by rw [hl]; exact hL) ?_) (args_list_sort _)))
  refine ⟨.none, rfl, ?_⟩
  obtain ⟨c, hc2⟩ := sortedHeap_at (vs := vs) (out := (PySem.W.sortVals (PySem.W.dataKind (PySem.W.sortingHeap (h1.push (seqObj "list" vs.toArray 0)) h1.objs.size vs) (bs.map enc)) false vs vs).toArray) hoL
  refine wpAny_pure ⟨_, rfl, h _ _ c h1.objs.size (PySem.W.sortVals_data false e er' hal) hp0 (fun b u q => ?_) hc2⟩
  have hlt := Heap.lt_size (k1 b u q)
  show (sortedHeap (h1.push (seqObj "list" vs.toArray 0)) h1.objs.size vs _).get? b = some u
  rw [sortedHeap_old (Nat.ne_of_lt hlt) (by rw [size_push']; exact Nat.lt_succ_of_lt hlt)]
  exact (keep b u q).2

/-- sorted(xs) of tuples of one kind -/
structure okS (ds : List D) : Prop where
  alike : PySem.W.AllAlike ds
  tup : ∀ d ∈ ds, ∃ x r, d = .tuple (x :: r)
  deep : ∀ d ∈ ds, d.depth ≤ 60
  len : ds.length ≤ 100000
  flat : flatD.flatA ds = true
def fSorted : List D → M D := fun ds Q => match ds with
  | [.list xs] => okS xs ∧ Q (.list (xs.mergeSort (PySem.W.dataLe false id)))
  | [.tuple xs] => okS xs ∧ Q (.list (xs.mergeSort (PySem.W.dataLe false id)))
  | _ => False
def rSortD (K : PySem.W.Frag) : List V → Hp → VK → Prop := fun vs H Q => ∃ (a : Addr) (ds : List D) (xs : List V), vs = [.ref a] ∧ (SqL K H a xs ∨ SqT K H a xs) ∧ DpAll K H xs ds ∧ okS ds ∧
  ∀ (ps : List (V × D)) (p : Addr), ps.Perm (xs.zip ds) → ps.map (·.2) = ds.mergeSort (PySem.W.dataLe false id) → H p = none → Q (.ref p) (upd H p (.lst (ps.map (·.1))))
theorem each_of_dp {X : Cx} {pins : List (Addr × Obj)} {σ : L2.St} {H : Hp} {s : Shared} (I : Inv X pins σ H s) : ∀ {ds : List D} {xs : List V} {us : List Value}, DpAll X.K H xs ds → Vals xs us →
    PySem.W.EachIs (fun u (b : V × D) => RelV b.1 u ∧ Dp X.K H b.1 b.2) us (xs.zip ds)
  | [], _, _, h, r => by cases h; cases r; exact .nil
  | d :: ds, _, _, h, r => by
    cases h with
    | cons h1 h2 =>
    cases r with
    | cons r1 r2 => exact .cons ⟨r1, h1⟩ (each_of_dp I h2 r2)
theorem vals_of_each {K : PySem.W.Frag} {H : Hp} : ∀ {bs : List (V × D)} {us : List Value}, PySem.W.EachIs (fun u (b : V × D) => RelV b.1 u ∧ Dp K H b.1 b.2) us bs → Vals (bs.map (·.1)) us
  | [], _, h => by cases h; exact .nil
  | b :: bs, _, h => by
    cases h with
    | cons h1 h2 => exact .cons h1.1 (vals_of_each h2)
theorem dpAll_len {K : PySem.W.Frag} {H : Hp} : ∀ {ds : List D} {xs : List V}, DpAll K H xs ds → xs.length = ds.length
  | [], _, h => by cases h; rfl
  | d :: ds, _, h => by
    cases h with
    | cons h1 h2 => simp [dpAll_len h2]
theorem zip_snd {α β : Type} : ∀ {xs : List α} {ds : List β}, xs.length = ds.length → (xs.zip ds).map (·.2) = ds
  | [], [], _ => rfl
  | x :: xs, d :: ds, h => by simp at h; simp [zip_snd h]
  | [], _ :: _, h => by simp at h
  | _ :: _, [], h => by simp at h
theorem cr_sortD {X : Cx} {k : Nat} (hr : Room k X.A) : CallR X (.builtin "sorted") (rSortD X.K) := by
  intro pins s σ H vs us Q I r h
  obtain ⟨a, ds, xs, rfl, hs, hd, ok, q⟩ := h
  rw [Vals.ref1 r]
  have hu64 := room64 hr
  obtain ⟨T, o, n, its, hT, ho, hc, hdat, rv⟩ : ∃ (T : String) (o : Obj) (n : Nat) (its : List Value), (T = "list" ∨ T = "tuple") ∧ s.heap.get? a = some o ∧ o.cls = .type T ∧ o.data = .seq its.toArray n ∧ Vals xs its := by
    rcases hs with hs | hs
    · obtain ⟨its, rv, ⟨o, n, ho, hc, _, hdat⟩, _⟩ := I.list hs
      exact ⟨"list", o, n, its, .inl rfl, ho, hc, hdat, rv⟩
    · obtain ⟨its, rv, ⟨o, ho, hc, n, hdat⟩, _⟩ := I.tuple hs
      exact ⟨"tuple", o, n, its, .inr rfl, ho, hc, hdat, rv⟩
  have hz := zip_snd (dpAll_len hd)
  have hlen : (xs.zip ds).length = ds.length := by rw [List.length_zip, dpAll_len hd, Nat.min_self]
  have hmem : ∀ b ∈ xs.zip ds, b.2 ∈ ds := fun b hb => by
    rw [← hz]; exact List.mem_map_of_mem hb
  refine sorted_seqD (R := fun u (b : V × D) => RelV b.1 u ∧ Dp X.K H b.1 b.2) (enc := fun b : V × D => b.2) (bs := xs.zip ds) hT ho hc hdat (each_of_dp I hd rv) ((each_of_dp I hd rv).mono fun u b ⟨h1, h2⟩ => Dp.reads I b.2 b.1 u h2 h1)
    (by rw [hz]; exact ok.alike) (by rw [hz]; exact .inl ok.tup) (by rw [hlen]; exact le_line ok.len) (fun b hb => ?_) fun out h' ep p e2 hp hk hn => ?_
  · have := ok.deep b.2 (hmem b hb)
    omega
  · have hp0 : H p = none := I.hok.gone hp
    have hv := vals_of_each e2
    have hperm : ((xs.zip ds).mergeSort (PySem.W.dataLe false fun b => b.2)).Perm (xs.zip ds) := List.mergeSort_perm _ _
    have hlen2 : (((xs.zip ds).mergeSort (PySem.W.dataLe false fun b => b.2)).map (·.1)).length ≤ sizeLine := by rw [List.length_map, hperm.length_eq, hlen]; exact le_line ok.len
    refine ⟨.ref p, upd H p (.lst (((xs.zip ds).mergeSort (PySem.W.dataLe false fun b => b.2)).map (·.1))), I.laidN (t' := s.toks) hk hp hp0 ⟨hlen2, out, ep, hv, hn⟩, rfl, q _ p hperm ?_ hp0⟩
    have := PySem.W.sort_maps (r := PySem.W.dataLe false fun b : V × D => b.2) (s := PySem.W.dataLe false id) (fun b : V × D => b.2) (l := xs.zip ds) fun a _ b _ => rfl
    rw [this, hz]
section
variable {X : Cx} {K : PySem.W.Frag} {aw : Option Addr} {e a b : Expr} {es : List Expr} {m n : En → M D} {t : En → M (List D)} {p pos apos : Pos}
theorem rpA_of_zip {H : Hp} : ∀ {ds : List D} {xs : List V}, RpA K aw H xs ds → ∀ b ∈ xs.zip ds, Rp K aw H b.1 b.2
  | [], _, r, b, hb => by cases r; simp at hb
  | d :: ds, _, r, b, hb => by
    cases r with
    | cons r0 rr =>
    simp at hb
    rcases hb with rfl | hb
    · exact r0
    · exact rpA_of_zip rr b hb
theorem rpA_map {H : Hp} : ∀ {ps : List (V × D)}, (∀ b ∈ ps, Rp K aw H b.1 b.2) → RpA K aw H (ps.map (·.1)) (ps.map (·.2))
  | [], _ => .nil
  | b :: ps, h => .cons (h b List.mem_cons_self) (rpA_map fun c hc => h c (List.mem_cons_of_mem _ hc))
theorem dpAll_less {H : Hp} {B : List Addr} : ∀ {vs : List V} {ds : List D}, DpAll K (cut H B) vs ds → DpAll K H vs ds
  | _, _, .nil => .nil
  | _, _, .cons h r => .cons (dp_less h) (dpAll_less r)
theorem ok_sorted : ArgOk K aw (rSortD K) fSorted := by
  intro H B xs ds Q R w hB r q k
  unfold fSorted at q
  split at q
  · cases r with
    | cons r0 rr =>
    cases rr
    cases r0 with
    | lst h1 r1 =>
    refine ⟨_, _, _, rfl, .inl (.inl (.inl (cut_some h1).1)), dpAll_less (r1.dp q.1.flat), q.1, fun ps p hperm hps hp => ?_⟩
    refine k _ _ _ (.new hp) (w.fresh hp) (.lst (new_cut hp hB) (rpA_new w hp ?_)) q.2
    rw [← hps]
    exact rpA_map fun b hb => rpA_of_zip r1 b (hperm.mem_iff.mp hb)
  · cases r with
    | cons r0 rr =>
    cases rr
    cases r0 with
    | tup h1 r1 =>
    refine ⟨_, _, _, rfl, .inr (sqT_less h1), dpAll_less (r1.dp q.1.flat), q.1, fun ps p hperm hps hp => ?_⟩
    refine k _ _ _ (.new hp) (w.fresh hp) (.lst (new_cut hp hB) (rpA_new w hp ?_)) q.2
    rw [← hps]
    exact rpA_map fun b hb => rpA_of_zip r1 b (hperm.mem_iff.mp hb)
  · cases q
theorem se_sortedc {k : Nat} (hr : Room k X.A) (hg : Gl X "sorted") (hm : X.mg "sorted" = none) (ha : SA X aw (e :: es) t) (he : starEach (e :: es) X.env = (false, eval e X.env) :: starEach es X.env := by rfl) (hpl : (backTo pos (starEach es X.env)).any (·.1) = false := by rfl) : SE X aw (.Call (.Name "sorted" p) (e :: es) [] pos) (eCall fSorted t) :=
  se_callB (cr_sortD hr) ok_sorted PyProof.Rows.boot_sorted (by decide) (by decide) hg hm ha he hpl

/-! ### xs.count(i) -/
def eCount (m : En → M D) (t : En → M (List D)) : En → M D := fun ρ Q => m ρ fun d => match d with
  | .list xs => t ρ fun ds => match ds with
    | [.int i] => match intsOf xs with
      | some ns => Q (.int (ns.count i : Nat))
      | none => False
    | _ => False
  | _ => False
theorem se_count (ha : SE X aw a m) (hb : SA X aw (e :: es) t) (hbase : attributeBase a "count" X.env (eval a X.env) = eval a X.env := by rfl)
    (hfew : ((backTo pos (starEach (e :: es) X.env)).all (fun x => !x.1) && (backToKw pos (keywordEach [] X.env)).all (fun x => x.1.isSome)
      && decide ((e :: es).length + ([] : List Keyword).length + (if ([] : List Keyword).isEmpty then 0 else 1) < 30)) = true := by rfl)
    (hline : (apos.endLine == pos.line) = true := by rfl) (hs : starEach (e :: es) X.env = (false, eval e X.env) :: starEach es X.env := by rfl) (hplain : (backTo pos (starEach es X.env)).any (·.1) = false := by rfl) :
    SE X aw (.Call (.Attribute a "count" apos) (e :: es) [] pos) (eCount m t) := pe_to (pe_bm PySem.F.plainAttrs_list PySem.F.slot_list_count PySem.F.type_list_count mt_lcount ha hb hbase hfew hline hs hplain) fun σ H R => by
  rintro ⟨G, B, ρ, Q, o, hm, k⟩
  refine ⟨G, B, ρ, _, o, hm, fun v H1 d e1 w1 r1 q1 => ?_⟩
  split at q1
  · rename_i xs
    have r1' := r1
    cases r1' with
    | lst h0 r0 =>
    refine ⟨.inl ⟨rfl, _, .inl (.inl (cut_some h0).1)⟩, G, B, ρ, _, o.grow e1 w1, q1, fun vs H2 ds e2 w2 r2 q2 => ?_⟩
    split at q2
    · split at q2
      · rename_i hi
        have r3 := r1.ext w1.ne (cut_ext e2)
        cases r3 with
        | lst h1 rr =>
        cases r2 with
        | cons ra rn =>
        cases rn
        cases ra
        have := ints_rp hi rr
        subst this
        exact ⟨_, _, _, rfl, rfl, .inl (.inl (cut_some h1).1), k _ H2 _ (e1.trans e2) w2 (.int _) q2⟩
      · cases q2
    · cases q2
  · cases q1

/-! ### a text some times -/
def mulStr (x : Str) (n : Int) : Str := if n < 1 then Str.empty else if (n == 1 || x.length == 0) = true then x else ⟨(List.replicate n.toNat x.cps).foldl (· ++ ·) #[]⟩
def fMulS : D → D → M D := fun x y Q => match x, y with
  | .str z, .int i => -1000 < i ∧ i ≤ 1000 ∧ z.length ≤ 1000 ∧ Q (.str (mulStr z i))
  | _, _ => False
theorem fold_size (cs : Array Nat) : ∀ (n : Nat) (acc : Array Nat), ((List.replicate n cs).foldl (· ++ ·) acc).size = acc.size + n * cs.size
  | 0, acc => by simp
  | n + 1, acc => by
    rw [List.replicate_succ, List.foldl_cons, fold_size cs n, Array.size_append, Nat.succ_mul]
    omega
theorem op_mulS : OpR X (binaryOp .Mult) (fun x y H Q => ∃ z i, x = .str z ∧ y = .int i ∧ -1000 < i ∧ i ≤ 1000 ∧ z.length ≤ 1000 ∧ Q (.str (mulStr z i)) H) := by
  intro pins s σ H x y v u Q I rx ry h
  obtain ⟨z, i, rfl, rfl, h1, h2, h3, q⟩ := h
  obtain ⟨t, rfl⟩ := rx
  obtain ⟨t2, rfl⟩ := ry
  refine PySem.P.mul_str (by
    rw [decide_eq_false (by omega), decide_eq_false (by omega)]
    rfl) (fun a b => ?_) (fun a b => ?_) ?_
  · have hi : 0 < i := by omega
    have h4 : (1000 : Int) ≤ (2 ^ 63 - 1) / i := Int.le_ediv_of_mul_le hi (by omega)
    have h5 : (z.length : Int) ≤ 1000 := by omega
    omega
  · unfold Builtin.Str.tooLong
    refine decide_eq_false ?_
    rw [sizeLine_eq]
    have h4 : i.toNat ≤ 1000 := by omega
    have h5 : z.length * i.toNat ≤ 1000 * 1000 := Nat.mul_le_mul h3 h4
    omega
  · unfold mulStr at q
    split
    · rw [if_pos (by assumption)] at q
      exact ⟨by decide, .str _, H, I.tok _, ⟨_, rfl⟩, q⟩
    · rw [if_neg (by assumption)] at q
      split
      · rw [if_pos (by assumption)] at q
        exact ⟨.str _, H, I, ⟨_, rfl⟩, q⟩
      · rw [if_neg (by assumption)] at q
        refine ⟨?_, .str _, H, I.tok _, ⟨_, rfl⟩, q⟩
        show (List.foldl (· ++ ·) #[] _).size ≤ sizeLine
        rw [fold_size, sizeLine_eq]
        have h4 : i.toNat ≤ 1000 := by omega
        have h5 : i.toNat * z.cps.size ≤ 1000 * 1000 := Nat.mul_le_mul h4 h3
        simp
        omega
theorem ok_mulS : OpOk K aw (fun x y H Q => ∃ z i, x = .str z ∧ y = .int i ∧ -1000 < i ∧ i ≤ 1000 ∧ z.length ≤ 1000 ∧ Q (.str (mulStr z i)) H) fMulS := by
  intro H B x y d e Q R w hB rx ry q k
  unfold fMulS at q
  split at q
  · cases rx
    cases ry
    exact ⟨_, _, rfl, rfl, q.1, q.2.1, q.2.2.1, k _ H _ (.refl _ _) w (.str _) q.2.2.2⟩
  · cases q
theorem se_mulS (ha : SE X aw a m) (hb : SE X aw b n) : SE X aw (.BinOp a .Mult b pos) (eOp fMulS m n) := se_op op_mulS ok_mulS ha hb

/-! ### in a tuple of data -/
def fInTD (neg : Bool) : D → D → M D := fun x y Q => match y with
  | .tuple ds => okD x ∧ okD (.tuple ds) ∧ Q (.bool (if neg then !(ds.any fun z => PyData.eqv z x) else ds.any fun z => PyData.eqv z x))
  | _ => False
def rInTD (K : PySem.W.Frag) (neg : Bool) : R2 := fun x y H Q => ∃ d ds, Dp K H x d ∧ Dp K H y (.tuple ds) ∧ SeqAt.shaped d = true ∧ SeqAt.shaped (.tuple ds) = true ∧ Q (.bl (if neg then !(ds.any fun z => PyData.eqv z d) else ds.any fun z => PyData.eqv z d)) H
theorem op_inTD {neg : Bool} (hu : X.A.units + 65 < cLine) : OpR X (compareOp (if neg = true then .NotIn else .In)) (rInTD X.K neg) := by
  intro pins s σ H x y v u Q I rx ry h
  obtain ⟨d, ds, hd, he, sd, se, q⟩ := h
  obtain ⟨as, r1⟩ := Dp.reads I d x v hd rx
  obtain ⟨bs, r2⟩ := Dp.reads I (.tuple ds) y u he ry
  cases neg with
  | false => exact SeqAt.in_tuple_reads r2 r1 (SeqAt.canLay_of_shaped se) (SeqAt.canLay_of_shaped sd) (room_in_shaped sd hu) ⟨.bl _, H, I, rfl, q⟩
  | true => exact SeqAt.notIn_tuple_reads r2 r1 (SeqAt.canLay_of_shaped se) (SeqAt.canLay_of_shaped sd) (room_in_shaped sd hu) ⟨.bl _, H, I, rfl, q⟩
theorem ok_inTD {neg : Bool} : OpOk K aw (rInTD K neg) (fInTD neg) := by
  intro H B x y d e Q R w _ rx ry q k
  unfold fInTD at q
  split at q
  · rename_i ds
    exact ⟨d, ds, dp_less (rx.dp q.1.1), dp_less (ry.dp q.2.1.1), q.1.2, q.2.1.2, k _ H _ (.refl _ _) w (.bl _) q.2.2⟩
  · cases q
theorem se_inTD {k : Nat} (hr : Room k X.A) (ha : SE X aw a m) (hb : SE X aw b n) (hm : behindInMarks .In b = false := by with_unfolding_all rfl) : SE X aw (.Compare a [.In] [b] pos) (eOp (fInTD false) m n) := se_cmp (op_inTD (neg := false) (room65 hr)) ok_inTD ha hb hm
theorem se_notInTD {k : Nat} (hr : Room k X.A) (ha : SE X aw a m) (hb : SE X aw b n) (hm : behindInMarks .NotIn b = false := by with_unfolding_all rfl) : SE X aw (.Compare a [.NotIn] [b] pos) (eOp (fInTD true) m n) := se_cmp (op_inTD (neg := true) (room65 hr)) ok_inTD ha hb hm
theorem st_inTD {k : Nat} (hr : Room k X.A) (ha : SE X aw a m) (hb : SE X aw b n) (hm : behindInMarks .In b = false := by with_unfolding_all rfl) : ST X aw (.Compare a [.In] [b] pos) (eT (eOp (fInTD false) m n)) := st_op (op_inTD (neg := false) (room65 hr)) ok_inTD ha hb hm
theorem st_notInTD {k : Nat} (hr : Room k X.A) (ha : SE X aw a m) (hb : SE X aw b n) (hm : behindInMarks .NotIn b = false := by with_unfolding_all rfl) : ST X aw (.Compare a [.NotIn] [b] pos) (eT (eOp (fInTD true) m n)) := st_op (op_inTD (neg := true) (room65 hr)) ok_inTD ha hb hm
end


/-! ### what the top has written -/
/-- the def x, written out -/
def DefAt (K : PySem.W.Frag) (x : Str) (st : Stmt) : Prop := ∃ (f : Addr) (oc : Value) (od : Option Addr) (osl : Array (Option Value)) (kV doc pm : Value) (an : Option Addr) (cdv ct : Value),
  PySem.W.nsIn K mainGlobals x = some (some (.ref f)) ∧ K.lookup f = some ⟨oc, od, .func (PySem.W.fnOf x x (defArgs st) (defBody st) (defScope st) .none kV doc pm an cdv ct), osl⟩ ∧
  PySem.W.codeIn K cdv x = true ∧ PySem.W.keepIn K (.ref f) = true
theorem defAt {K : PySem.W.Frag} {x : Str} {st : Stmt} {f : Addr} {oc : Value} {od : Option Addr} {osl : Array (Option Value)} {kV doc pm : Value} {an : Option Addr} {cdv ct : Value}
    (a : PySem.W.nsIn K mainGlobals x = some (some (.ref f))) (l : K.lookup f = some ⟨oc, od, .func (PySem.W.fnOf x x (defArgs st) (defBody st) (defScope st) .none kV doc pm an cdv ct), osl⟩)
    (c : PySem.W.codeIn K cdv x = true) (k : PySem.W.keepIn K (.ref f) = true) : DefAt K x st := ⟨_, _, _, _, _, _, _, _, _, _, a, l, c, k⟩
/-- it is there, and can be called -/
def Has (K : PySem.W.Frag) (mg : Str → Option Value) (x : Str) (st : Stmt) : Prop := ∃ f fd, Fun K x x st f fd ∧ mg x = some (.ref f)
theorem DefAt.has {K : PySem.W.Frag} {h : Heap} {mg : Str → Option Value} {x : Str} {st : Stmt} (X : K.In h) (G : h.Ns mainGlobals mg) (d : DefAt K x st) : Has K mg x st := by
  obtain ⟨f, _, _, _, _, _, _, _, _, _, a, l, c, k⟩ := d
  exact ⟨f, _, fun_mk (st := st) l c k, PySem.W.mg_of X G a⟩
/-- a pair of ints, written out -/
def CstAt (K : PySem.W.Frag) (x : Str) (i j : Int) : Prop := ∃ (c : Addr) (t u : Tok) (dd : Option Addr) (n : Nat) (sl : Array (Option Value)), PySem.W.nsIn K mainGlobals x = some (some (.ref c)) ∧ K.lookup c = some ⟨.type "tuple", dd, .seq #[.int i t, .int j u] n, sl⟩
theorem cstAt {K : PySem.W.Frag} {x : Str} {i j : Int} {c : Addr} {t u : Tok} {dd : Option Addr} {n : Nat} {sl : Array (Option Value)} (a : PySem.W.nsIn K mainGlobals x = some (some (.ref c)))
    (l : K.lookup c = some ⟨.type "tuple", dd, .seq #[.int i t, .int j u] n, sl⟩) : CstAt K x i j := ⟨c, t, u, dd, n, sl, a, l⟩

set_option maxHeartbeats 4000000

/-! ### an own exception's __init__: the base told, one field -/
def spInit (K : PySem.W.Frag) (C : Addr) : Sp := fun vs H Q _ => ∃ (a : Addr) (z : Str), vs = [.ref a, .str z] ∧ OexC K C ∧ H a = some (exo a C none) ∧ z.length ≤ 1000 ∧
  ∀ dx, H dx = none → dx ≠ a → Q .non (upd (upd H dx (exd dx [("word", .str z)])) a (exo a C (some dx)))
/-- the bound ValueError.__init__ called -/
theorem bound_init {X : Cx} {pins : List (Addr × Obj)} {σ : L2.St} {H : Hp} {s : Shared} {a u C : Addr} {us : List Value} {Q : Value → Shared → Prop} {E : Value → Shared → Prop} {A : Around} (T : OexC X.K C) (I : Inv X pins σ H s) (e : H a = some (exo a C none)) (hu : s.heap.get? u = some (PySem.W.kxs_mw "ValueError.__init__" a)) (hl : us.length ≤ sizeLine)
    (h : ∀ s', Inv X pins σ H s' → Q .none s') : wpAny (model X.prog X.w) A (call (.ref u) us) Q E s := by
  obtain ⟨nm, q, N, bs, bm, sn, sub, ab, col, dd, k0, k1, k2, k3, k5, hC, hbm⟩ := T.cls
  obtain ⟨t1, ho⟩ := exo_at I.hok e
  obtain ⟨hh, g, d, tk, os⟩ := s
  refine wpAny_call (codeAny_of_tree ?_)
  show wpAny _ A.in1 (callAny (.ref u) ⟨us, []⟩) _ _ _
  simp only [callAny]
  refine wpAny_bind (wpAny_load hu ?_)
  simp only [PySem.W.kxs_mw, show (Value.type "method-wrapper" == Value.type "method" || Value.type "method-wrapper" == Value.type "builtin_function_or_method" || Value.type "method-wrapper" == Value.type "method-wrapper") = true by decide, if_true]
  refine PySem.W.KFB.if_so (by decide) ?_
  refine wpAny_bind (PySem.W.check_bound_init F.excBase_ValueError.toExcCallFacts (I.kIn _ _ hC) ho rfl ?_)
  refine wpAny_bind (wpAny_pure (wpAny_pure ?_))
  refine ⟨plainId_quiet F.excBase_ValueError.init.plain _, codeAny_builtin F.excBase_ValueError.initEntry ?_⟩
  refine PySem.W.exc_init_tree (cls := .ref C) (t0 := t1) (dv := none) (c2 := .none) (c3 := .none) (b4 := .bool false) ho hl fun h' k hx _ => ?_
  have J := I.write (t' := tk) (x := a) (e := a) (o := exo a C none) (by rw [e]; exact True.intro) (.inl rfl) k ⟨_, hx⟩ (exo_ok hx)
  have eu : upd H a (exo a C none) = H := by
    funext b
    by_cases hb : b = a
    · rw [hb, upd_same, e]
    · rw [upd_ne hb]
  rw [eu] at J
  exact h _ J

abbrev supScope : Scope := { kind := .function, names := [("self", .local), ("word", .local), ("__class__", .free), ("super", .globalImplicit)], isGenerator := false, isCoroutine := false, more := [] }
theorem sup_scope : NdefX.NScope ["self", "word", "__class__"] ["self", "word"] ["__class__"] supScope := NdefX.nscope_by (by decide +kernel)
abbrev supCall (p0 p1 p2 p3 p4 p5 p6 : Pos) (j : Nat) (msg : Str) : Expr := .Call (.Attribute (.Call (.Name "super" p0) [] [] p1) "__init__" p2) [.BinOp (.Constant (.str msg) j p3) .Add (.Name "word" p4) p5] [] p6
/-- what the written part says of the def __init__ -/
structure SupAt (P : Program) (K : PySem.W.Frag) (mg : Str → Option Value) (C f cc cda : Addr) (qual : Str) (params : Arguments) : Prop where
  par : (params.posonlyargs ++ params.args).head?.map (·.arg) = some "self"
  code : PySem.W.codeIn K (.ref cda) qual = true
  file : ∃ ccl cdd vs ccs file tf, K.lookup cda = some (⟨ccl, cdd, .fields vs, ccs⟩ : Obj) ∧ vs[2]? = some (.str file tf) ∧ ((P.main.file : Str) == file) = true
  cell : ∃ cl cld csl, K.lookup cc = some (⟨cl, cld, .cell (some (.ref C)), csl⟩ : Obj)
  sup : mg "super" = none
  top : (P.main.scope.names.lookup ("super" : Str)).isSome = false
  sub : PySem.W.mroIn K C (.ref C) = some true
  no : PySem.W.nsIn K cStatics "thirdparty.any" = some none
  meth : PySem.W.ks_superIn K C C "__init__" = some (some (.builtin "ValueError.__init__"))
  isV : PySem.W.subIn K (.ref C) (.type "ValueError") = some true
  fld : PySem.W.findIn K (.ref C) "word" = some none
theorem sup_fn {P : Program} {w : PySem.World} {K : PySem.W.Frag} {mg : Str → Option Value} {base : Heap} {k : Nat} {C f cc cda : Addr} {qual : Str} {params : Arguments} {dV kV doc pm ct oc : Value} {an od : Option Addr} {osl : Array (Option Value)}
    {p0 p1 p2 p3 p4 p5 p6 p7 p8 p9 p10 p11 : Pos} {j : Nat} {msg : Str} (Z : SupAt P K mg C f cc cda qual params) (hmsg : msg.length ≤ 1000) {pl : Sem Bool}
    (hev : ∀ env : Env, eval (supCall p0 p1 p2 p3 p4 p5 p6 j msg) env = (do
      let ov ← attributeBase (.Call (.Name "super" p0) [] [] p1) "__init__" env (eval (.Call (.Name "super" p0) [] [] p1) env)
      standAt p2.atName
      let (f, first) ← holding [ov] (getMethod ov "__init__" pl)
      callWith p6 f first (backTo p6 (starEach [.BinOp (.Constant (.str msg) j p3) .Add (.Name "word" p4) p5] env)) []))
    (hsw : ∀ env : Env, swapsWith (supCall p0 p1 p2 p3 p4 p5 p6 j msg) none p7.line env = pure false)
    (hsw2 : ∀ env : Env, swapsWith (.Name "word" p10) (some (.Attribute (.Name "self" p8) "word" p9)) p11.line env = pure false)
    (lk : K.lookup f = some ⟨oc, od, .func (PySem.W.ksFn "__init__" qual params
      [.Expr (supCall p0 p1 p2 p3 p4 p5 p6 j msg) p7,
       .Assign [.Attribute (.Name "self" p8) "word" p9] (.Name "word" p10) p11] supScope dV kV doc pm an (.ref cda) ct cc), osl⟩) :
    FnOk P w K mg base CX0 (k + 1) f (PySem.W.ksFn "__init__" qual params
      [.Expr (supCall p0 p1 p2 p3 p4 p5 p6 j msg) p7,
       .Assign [.Attribute (.Name "self" p8) "word" p9] (.Name "word" p10) p11] supScope dV kV doc pm an (.ref cda) ct cc) ["self", "word"] (spInit K C) := by
  refine ⟨fun vs H Q E h => by obtain ⟨a, z, rfl, _⟩ := h; rfl, fun A outer s H args us vs Q E hr e0 hb r hsp => ?_⟩
  obtain ⟨a, z, rfl, T, ha, hz, hq⟩ := hsp
  have KX : K.In s.heap := e0.mod.kin.keeps fun b o e => (e0.bs b o e).1
  have lim : s.heap.NoLimit := e0.mod.nolimit.keeps fun b o e => (e0.bs b o e).1
  obtain ⟨cl, cld, csl, hcell⟩ := Z.cell
  obtain ⟨ccl, cdd, vs2, ccs, file, tf, hcode, hvs, hfile⟩ := Z.file
  refine ks_codeAny_call_defAt hr.depth (KX _ _ lk) rfl lim (PySem.W.codeRec_of KX Z.code) rfl hb sup_scope.nocell (fun y hy => sup_scope.par y.1 (List.of_mem_zip hy).1) (fun h₀ hns kp => ?_) sup_scope.co sup_scope.gen sup_scope.kind
  have CA : NdefX.CellsAt [("__class__", cc)] ["__class__"] [none] s.heap H := by
    have one : ∀ y c, ([("__class__", cc)] : List (Str × Addr)).lookup y = some c → c = cc ∧ y = "__class__" := fun y c e => by
      rw [List.lookup_cons] at e
      by_cases hy : y = "__class__"
      · subst hy
        simp at e
        exact ⟨e.symm, rfl⟩
      · rw [show (y == ("__class__" : Str)) = false by simpa using hy] at e
        simp at e
    refine ⟨rfl, fun y c e => ?_, fun x y c e1 e2 => by rw [(one _ _ e1).2, (one _ _ e2).2], fun i y hy => ?_⟩
    · obtain ⟨rfl, _⟩ := one y c e
      exact ⟨(e0.bs _ _ (e0.mod.kin _ _ hcell)).2, _, _, KX _ _ hcell, rfl⟩
    · match i, hy with
      | 0, hy =>
        cases hy
        exact ⟨cc, rfl, fun v z => by cases z⟩
      | i + 1, hy => simp at hy
  have hl : ([.ref a, .str z] : List V).length = (["self", "word"] : List Str).length := rfl
  have I : Inv (NdefX.ncx CX0 P w K mg base ["self", "word", "__class__"] ⟨"__init__", qual, params, [], supScope, [("__class__", cc)], cda⟩ f A outer s H E) [] (NdefX.startF ["self", "word", "__class__"] [.ref a, .str z] [none]) H { s with heap := h₀, toks := s.toks + (["self", "word"].zip us).length } :=
    NdefX.inv_startN sup_scope hr.hd e0 hl r CA hns kp
  generalize hX : NdefX.ncx CX0 P w K mg base ["self", "word", "__class__"] ⟨"__init__", qual, params, [], supScope, [("__class__", cc)], cda⟩ f A outer s H E = X at I
  have hXp : X.prog = P := by rw [← hX]; rfl
  have hXw : X.w = w := by rw [← hX]; rfl
  have hXK : X.K = K := by rw [← hX]; rfl
  have hXe : X.env = callEnv (PySem.W.ksFn "__init__" qual params
      [.Expr (supCall p0 p1 p2 p3 p4 p5 p6 j msg) p7,
       .Assign [.Attribute (.Name "self" p8) "word" p9] (.Name "word" p10) p11] supScope dV kV doc pm an (.ref cda) ct cc) s.heap.objs.size f := by rw [← hX]; rfl
  refine PySem.ks_wpAt_execs_cons ?_
  refine PySem.ks_wpAt_Expr_any ?_ rfl (hsw _)
  refine PySem.ks_wpAt_MethodCall (pl := pl) ?_ (hev _)
  rw [← hXe]
  have hxA : X.A = A.deeper X.env := by rw [← hX]; rfl
  have hxe : X.xe = fun e s' => wpAny (model P w) (A.deeper X.env) (leaving X.env e) (fun _ s'' => CR CX0 outer P w H s Q E (.error e) s'') (fun e' s'' => CR CX0 outer P w H s Q E (.error e') s'') s' := by rw [← hX]; rfl
  rw [← hxe, ← hxA]
  have hN : X.N = (["self", "word", "__class__"] : List Str) := by rw [← hX]; rfl
  have hsc : X.env.scope = supScope := by rw [hXe]; rfl
  have hloc : X.env.locals = s.heap.objs.size := by rw [hXe]; rfl
  have hx0 : X.H_0 = H := by rw [← hX]; rfl
  have hs0 : X.s_0 = s := by rw [← hX]; rfl
  have hout : X.outer = outer := by rw [← hX]; rfl
  have hex : X.ex = [] := by rw [← hX]; rfl
  have hfu : X.env.func = some f := by rw [hXe]; rfl
  have hco : X.env.code = .ref cda := by rw [hXe]; rfl
  have hce : X.env.cells.lookup ("__class__" : Str) = some cc := by rw [hXe]; rfl
  have hmg : X.mg = mg := by rw [← hX]; rfl
  clear hX hXe
  subst hXp hXw hXK hmg
  generalize hσ : NdefX.startF ["self", "word", "__class__"] [.ref a, .str z] [none] = σ at I
  have hσ' : σ = [some (.ref a), some (.str z), none] := by rw [← hσ]; rfl
  -- the second row
  have key : ∀ s', Inv X [] σ H s' → PySem.wpAt (model X.prog X.w) X.A (.func [.Expr (supCall p0 p1 p2 p3 p4 p5 p6 j msg) p7, .Assign [.Attribute (.Name "self" p8) "word" p9] (.Name "word" p10) p11] X.env)
      (execs [.Assign [.Attribute (.Name "self" p8) "word" p9] (.Name "word" p10) p11] X.env) (fun f s' => CR CX0 outer X.prog X.w H s Q E (.ok (.ret (match f with | .ret v => v | _ => .none))) s') X.xe s' := fun s' J => by
    have hst : PS X (.Assign [.Attribute (.Name "self" p8) "word" p9] (.Name "word" p10) p11) (tOst X.K "word" (tVar 0) (tVar 1)) :=
      ps_ost (pe_var (by rw [hN]; rfl) (by rw [hsc]; exact .inl rfl)) (pe_var (by rw [hN]; rfl) (by rw [hsc]; exact .inl rfl)) (hsw2 _)
    refine PySem.wpAt_of_wpAny (wpAny_mono ((pss_one hst).run [] s' σ H { nx := fun _ H' => Q .non H', rt := fun _ _ => False, bk := fun _ _ => False, ct := fun _ _ => False } J ?_) (fun fl s2 hs => ?_) fun e s2 he => he)
    · subst hσ'
      refine ⟨.str z, rfl, .ref a, rfl, a, C, rfl, T, Z.fld, .inl ⟨ha, hq⟩⟩
    · cases fl with
      | ret u =>
        obtain ⟨v, σ', H', J2, rv, q⟩ := hs
        exact q.elim
      | next =>
        obtain ⟨σ', H', J2, q⟩ := hs
        have hb2 := J2.base
        rw [hx0, hs0, hex, show X.fs = frs outer by rw [← hout]] at hb2
        exact ⟨.non, H', by rw [← hs0]; exact J2.os, J2.bare, hb2, J2.hok, rfl, q⟩
      | brk =>
        obtain ⟨_, _, _, q⟩ := hs
        exact q.elim
      | cont =>
        obtain ⟨_, _, _, q⟩ := hs
        exact q.elim
  -- super()
  obtain ⟨nm, q2, N, bs, bm, sn, sub, ab, col, dd, k0, k1, k2, k3, k5, hC, hbm⟩ := T.cls
  obtain ⟨cd, hcd⟩ : ∃ cd, PySem.W.clsIn X.K C = some cd := by unfold PySem.W.clsIn; rw [hC]; exact ⟨_, rfl⟩
  have K0 : X.K.In h₀ := I.kIn
  obtain ⟨t1, ho⟩ := exo_at I.hok ha
  obtain ⟨u0, us0, rfl⟩ : ∃ u0 us0, us = u0 :: us0 := by cases r; exact ⟨_, _, rfl⟩
  have hself : ((["self", "word"] : List Str).zip (u0 :: us0)).reverse.lookup ("self" : Str) = some (Value.ref a) := by
    cases r with
    | cons r0 rr =>
    cases r0
    cases rr with
    | cons r1 rr =>
    cases rr
    rfl
  obtain ⟨parg, hpa, hpn⟩ : ∃ ar, (params.posonlyargs ++ params.args).head? = some ar ∧ ar.arg = "self" := by
    have := Z.par
    cases e : (params.posonlyargs ++ params.args).head? with
    | none => rw [e] at this; cases this
    | some ar => rw [e] at this; exact ⟨ar, rfl, Option.some.inj this⟩
  refine PySem.ks_wpAt_super_base (f := f) (cc := cda) (env := X.env) (s := { s with heap := h₀, toks := s.toks + ((["self", "word"] : List Str).zip (u0 :: us0)).length }) (ar := parg) (by show X.env.scope.names.lookup _ = _; rw [hsc]; rfl) (by show X.env.scope.names.lookup _ = _; rw [hsc]; rfl) (by decide) hfu (K0 _ _ lk) rfl hpa hco (K0 _ _ hcode) rfl hvs hfile Z.top ?_
  rw [hpn]
  have hk : X.env.scope.kind = .function := by rw [hsc]
  obtain ⟨mb, h1, h2⟩ := I.mod.blt
  refine PySem.W.ks_loadName_global hk (by show X.env.scope.names.lookup _ = _; rw [hsc]; rfl) (Calls.loadGlobal_builtin (by rw [I.ok.glob]; exact I.mod.glob.keeps I.bk) Z.sup (by rw [I.ok.blt]; exact h1.keeps I.bk) ((h2 _ (by decide)).trans (show bootBuiltins "super" = some (.type "super") by first | rfl | kernel_rfl)) ⟨rfl, ?_⟩)
  refine wpAny_loadName_free hk (by show X.env.scope.names.lookup _ = _; rw [hsc]; rfl) hce ⟨_, K0 _ _ hcell, rfl⟩ ?_
  refine wpAny_loadName_local hk (by show X.env.scope.names.lookup _ = _; rw [hsc]; rfl) (by rw [hloc]; exact hns) hself ?_
  refine PySem.ks_wpAny_isType_cls (h := h₀) (K0 _ _ hC) rfl ⟨rfl, ?_⟩
  refine PySem.ks_wpAny_call_super (K0 _ _ hC) rfl ho rfl (fun c e => by cases e) (PySem.W.looks_mroIn K0 Z.sub) (fun h2 eso k2 => ?_)
  have I1 : Inv X [] σ H { s with heap := h2, toks := s.toks + ((["self", "word"] : List Str).zip (u0 :: us0)).length } := I.kept k2
  have J1 : PySem.W.InstAt h2 a { cls := .ref C, dict := none, data := .fields #[.ref t1, .none, .none, .none, .bool false, .none] } C none := ⟨k2 _ _ ho, rfl, rfl, trivial⟩
  refine PySem.W.kxs_getMethod PySem.W.kxs_ValueError eso (PySem.W.looks_opaque I1.kIn Z.no) (l₀ := cd.mro) (fun A Q E s k q => wpAny_bind ((PySem.W.looks_clsIn I1.kIn hcd) A _ E s k (wpAny_pure q))) rfl I1.kIn (by have := Z.meth; unfold PySem.W.ks_superIn at this; rw [hcd] at this; exact this) (J1.type.andThen (PySem.W.looks_subIn I1.kIn Z.isV)) (PySem.W.ks_ne I1.kIn J1 hcd) (by decide) ?_
  have I2 : Inv X [] σ H { s with heap := h2.push (PySem.W.kxs_mw "ValueError.__init__" a), toks := s.toks + ((["self", "word"] : List Str).zip (u0 :: us0)).length + 1 } := I1.kept (t' := _) fun b o e => Heap.get?_push_of_some _ e
  have hw : (h2.push (PySem.W.kxs_mw "ValueError.__init__" a)).get? h2.objs.size = some (PySem.W.kxs_mw "ValueError.__init__" a) := Heap.get?_push_size _ rfl
  have hfr : H h2.objs.size = none := I1.hok.fresh (Nat.le_refl _)
  have I3 : Inv X [(h2.objs.size, PySem.W.kxs_mw "ValueError.__init__" a)] σ H { s with heap := h2.push (PySem.W.kxs_mw "ValueError.__init__" a), toks := s.toks + ((["self", "word"] : List Str).zip (u0 :: us0)).length + 1 } := I2.pins_of fun p hp => by
    rw [List.mem_singleton] at hp
    subst hp
    exact ⟨hw, hfr, fun z => absurd I1.lt (by rw [← z]; exact Nat.lt_irrefl _), I1.nofs (Nat.le_refl _), fun v z => by cases z⟩
  have hA : PA X [.BinOp (.Constant (.str msg) j p3) .Add (.Name "word" p4) p5] (tCons (tOp (fun x y H Q => ∃ i j, x = .str i ∧ y = .str j ∧ i.length + j.length ≤ sizeLine ∧ Q (.str (i ++ j)) H) (tC (.str msg)) (tVar 1)) tNil) :=
    pa_cons (pe_op op_add_str pe_str (pe_var (by rw [hN]; rfl) (by rw [hsc]; exact .inl rfl))) pa_nil
  show wpAny _ _ (callWith p6 (Value.ref h2.objs.size) [] _ []) _ _ _
  refine PySem.W.kxs_callWith (i := "ValueError.__init__") (x := a) rfl (Calls.evalArgs_plain (wpAny_mono (hA.run p6 _ _ σ H (fun vs H1 => vs.length = 1 ∧ H1 = H) I3 ?_) (fun us s1 hh => ?_) fun _ _ x => x))
  · subst hσ'
    exact ⟨.str z, rfl, msg, z, rfl, rfl, by rw [sizeLine_eq]; omega, rfl, rfl⟩
  obtain ⟨vs, H1, I4, r4, hl4, rfl⟩ := hh
  obtain ⟨hu, _⟩ := I4.pin (h2.objs.size, PySem.W.kxs_mw "ValueError.__init__" a) (List.mem_append_right _ List.mem_cons_self)
  refine ⟨hu, ?_⟩
  refine bound_init T I4 ha hu (by show ([] ++ us).length ≤ sizeLine; rw [List.nil_append, ← r4.length, hl4, sizeLine_eq]; omega) fun s5 I5 => ?_
  exact key s5 (I5.pins_of fun p hp => by simp at hp)


/-! ### an exception, told as a datum that no value has -/
def exD (z : Str) : D := .dict [(.str Str.empty, .str z)]
def excOf : D → Option Str
  | .dict [(.str _, .str z)] => some z
  | _ => none
theorem excOf_exD (z : Str) : excOf (exD z) = some z := rfl
theorem excOf_rp {K : PySem.W.Frag} {aw : Option Addr} {H : Hp} {v : V} {d : D} (r : Rp K aw H v d) : excOf d = none := by
  cases r <;> rfl
/-- the exception's dict: its word -/
def Wd (H : Hp) (dx : Addr) (z : Str) : Prop := H dx = some (.xd [("word", .str z)])
section
variable {X : Cx} {aw : Option Addr} {C : Addr} {W : WX}
/-- an expression that may raise -/
def tMX (K : PySem.W.Frag) (aw : Option Addr) (C : Addr) (W : WX) (m : En → M D) : TE := fun σ H R => ∃ G B ρ Q, Ok K aw G B σ ρ H ∧ m ρ Q ∧ (∀ v H' d, Ext aw H H' → World aw (cut H' B) → Rp K aw (cut H' B) v d → Q d → R v H') ∧
  ∀ H' dx z, Ext aw H H' → World aw (cut H' B) → Wd H' dx z → Q (exD z) → W (.ref C) (some dx) σ H'
abbrev SEX (X : Cx) (aw : Option Addr) (C : Addr) (W : WX) (e : Expr) (m : En → M D) : Prop := PE X e (tMX X.K aw C W m)
theorem sex_of {e : Expr} {m : En → M D} (h : SE X aw e m) : SEX X aw C W e m := pe_to h fun σ H R => by
  rintro ⟨G, B, ρ, Q, o, hm, q, _⟩
  exact ⟨G, B, ρ, Q, o, hm, q⟩
/-- a def's promise, where it may raise -/
def spX (K : PySem.W.Frag) (C : Addr) (n : Nat) (F : List D → M D) : Sp := fun vs H Q E => ∃ aw B ds P, vs.length = n ∧ World aw (cut H B) ∧ (∀ p ∈ B, ∃ xs, H p = some (.lst xs)) ∧ RpA K aw (cut H B) vs ds ∧ F ds P ∧
  (∀ v H' d, Ext aw H H' → World aw (cut H' B) → Rp K aw (cut H' B) v d → P d → Q v H') ∧ ∀ H' dx z, Ext aw H H' → World aw (cut H' B) → Wd H' dx z → P (exD z) → E (.ref C) (some dx) H'
structure Dx (P : Program) (w : PySem.World) (K : PySem.W.Frag) (mg : Str → Option Value) (base : Heap) (C : Addr) (x : Str) (n k : Nat) (F : List D → M D) : Prop where
  ex : ∃ f fd ps, ps.length = n ∧ mg x = some (.ref f) ∧ PySem.W.keepIn K (.ref f) = true ∧ Binds K fd ps [] ∧ FnOk P w K mg base (L2.CX P w) k f fd ps (spX K C n F)
theorem se_callX {x : Str} {p pos : Pos} {e : Expr} {es : List Expr} {t : En → M (List D)} {F : List D → M D} {n k j : Nat} (h : Dx X.prog X.w X.K X.mg X.base C x n j F) (hr : Room k X.A) (hjk : j ≤ k) (tk : Takes X W) (hg : Gl X x) (ha : SA X aw (e :: es) t)
    (hdb : (x == ("__debug__" : Str)) = false := by decide) (he : starEach (e :: es) X.env = (false, eval e X.env) :: starEach es X.env := by rfl) (hpl : (backTo pos (starEach es X.env)).any (·.1) = false := by rfl) : SEX X aw C W (.Call (.Name x p) (e :: es) [] pos) (eCallN n F t) := by
  obtain ⟨f, fd, ps, h0, h1, h2, h3, h4⟩ := h.ex
  refine pe_to (pe_callS (E := WE W) h4 (hr.mono hjk) hg h1 h2 h3 (fun σ => passAt tk σ) ha hdb he hpl) fun σ H R => ?_
  rintro ⟨G, B, ρ, Q, o, hm, q, qx⟩
  refine ⟨G, B, ρ, _, o, hm, fun vs H1 ds e1 w1 r1 q1 => ?_⟩
  exact ⟨aw, B, ds, Q, by rw [r1.length]; exact q1.1, w1, (o.grow e1 w1).own, r1, q1.2, fun v H' d e2 w2 r2 q2 => q v H' d (e1.trans e2) w2 r2 q2, fun H' dx z e2 w2 hd q2 => qx H' dx z (e1.trans e2) w2 hd q2⟩
/-- a if c else b, where they may raise -/
theorem sex_if {c a b : Expr} {pos : Pos} {tt : En → M Bool} {m n : En → M D} (hc : ST X aw c tt) (ha : SEX X aw C W a m) (hb : SEX X aw C W b n) : SEX X aw C W (.IfExp c a b pos) (eIf tt m n) := pe_to (pe_ifExp hc ha hb) fun σ H R => by
  rintro ⟨G, B, ρ, Q, o, hm, k, kx⟩
  refine ⟨G, B, ρ, _, o, hm, fun H1 bb e1 w1 q1 => ?_⟩
  cases bb with
  | true => exact ⟨G, B, ρ, Q, o.grow e1 w1, q1, fun v H' d e w r q => k v H' d (e1.trans e) w r q, fun H' dx z e w hd q => kx H' dx z (e1.trans e) w hd q⟩
  | false => exact ⟨G, B, ρ, Q, o.grow e1 w1, q1, fun v H' d e w r q => k v H' d (e1.trans e) w r q, fun H' dx z e w hd q => kx H' dx z (e1.trans e) w hd q⟩
/-! ### statements -/
def tSX (K : PySem.W.Frag) (aw : Option Addr) (C : Addr) (W : WX) (s : MS) : TS := fun Dn σ H => ∃ G B ρ P, Ok K aw G B σ ρ H ∧ s ρ P ∧
  (∀ σ' H' ρ' B', Ok K aw G B' σ' ρ' H' → Ext aw (cut H B) (cut H' B') → P.nx ρ' → Dn.nx σ' H') ∧
  (∀ v H' d, Ext aw G.H0 H' → World aw (cut H' G.Bc) → Rp K aw (cut H' G.Bc) v d → P.rt d → Dn.rt v H') ∧
  (∀ σ' H' ρ' B', Ok K aw G B' σ' ρ' H' → Ext aw (cut H B) (cut H' B') → P.bk ρ' → Dn.bk σ' H') ∧
  (∀ σ' H' ρ' B', Ok K aw G B' σ' ρ' H' → Ext aw (cut H B) (cut H' B') → P.ct ρ' → Dn.ct σ' H') ∧
  ∀ σ' H' dx z, Ext aw G.H0 H' → World aw (cut H' G.Bc) → Wd H' dx z → P.rt (exD z) → W (.ref C) (some dx) σ' H'
abbrev SSX (X : Cx) (aw : Option Addr) (C : Addr) (W : WX) (st : Stmt) (s : MS) : Prop := PS X st (tSX X.K aw C W s)
abbrev SSsX (X : Cx) (aw : Option Addr) (C : Addr) (W : WX) (st : List Stmt) (s : MS) : Prop := PSs X st (tSX X.K aw C W s)
theorem ssx_of {st : Stmt} {s : MS} (h : SS X aw st s) : SSX X aw C W st s := ps_to h fun Dn σ H => by
  rintro ⟨G, B, ρ, P, o, hs, k1, k2, k3, k4, _⟩
  exact ⟨G, B, ρ, P, o, hs, k1, k2, k3, k4⟩
theorem ssx_nil : SSsX X aw C W [] sNext := pss_to ss_nil fun Dn σ H => by
  rintro ⟨G, B, ρ, P, o, hs, k1, k2, k3, k4, _⟩
  exact ⟨G, B, ρ, P, o, hs, k1, k2, k3, k4⟩
theorem ssx_cons {st : Stmt} {rest : List Stmt} {s t : MS} (h1 : SSX X aw C W st s) (h2 : SSsX X aw C W rest t) : SSsX X aw C W (st :: rest) (sSeq s t) := pss_to (pss_cons h1 h2) fun Dn σ H => by
  rintro ⟨G, B, ρ, P, o, hs, k1, k2, k3, k4, k5⟩
  refine ⟨G, B, ρ, _, o, hs, fun σ' H' ρ' B' o' e' q' => ?_, k2, k3, k4, k5⟩
  exact ⟨G, B', ρ', P, o', q', fun σ2 H2 ρ2 B2 o2 e2 q2 => k1 σ2 H2 ρ2 B2 o2 (e'.trans e2) q2, k2, fun σ2 H2 ρ2 B2 o2 e2 q2 => k3 σ2 H2 ρ2 B2 o2 (e'.trans e2) q2, fun σ2 H2 ρ2 B2 o2 e2 q2 => k4 σ2 H2 ρ2 B2 o2 (e'.trans e2) q2, k5⟩
theorem ssx_one {st : Stmt} {s : MS} (h1 : SSX X aw C W st s) : SSsX X aw C W [st] s := pss_one h1
theorem ssx_if {c : Expr} {sts sts2 : List Stmt} {pos : Pos} {tt : En → M Bool} {s t : MS} (hc : ST X aw c tt) (h1 : SSsX X aw C W sts s) (h2 : SSsX X aw C W sts2 t) : SSX X aw C W (.If c sts sts2 pos) (sIf tt s t) := ps_to (ps_if hc h1 h2) fun Dn σ H => by
  rintro ⟨G, B, ρ, P, o, hs, k1, k2, k3, k4, k5⟩
  refine ⟨G, B, ρ, _, o, hs, fun H1 b e1 w1 q1 => ?_⟩
  have ec : Ext aw (cut H B) (cut H1 B) := cut_ext e1
  cases b with
  | true => exact ⟨G, B, ρ, P, o.grow e1 w1, q1, fun σ2 H2 ρ2 B2 o2 e2 q2 => k1 σ2 H2 ρ2 B2 o2 (ec.trans e2) q2, k2, fun σ2 H2 ρ2 B2 o2 e2 q2 => k3 σ2 H2 ρ2 B2 o2 (ec.trans e2) q2, fun σ2 H2 ρ2 B2 o2 e2 q2 => k4 σ2 H2 ρ2 B2 o2 (ec.trans e2) q2, k5⟩
  | false => exact ⟨G, B, ρ, P, o.grow e1 w1, q1, fun σ2 H2 ρ2 B2 o2 e2 q2 => k1 σ2 H2 ρ2 B2 o2 (ec.trans e2) q2, k2, fun σ2 H2 ρ2 B2 o2 e2 q2 => k3 σ2 H2 ρ2 B2 o2 (ec.trans e2) q2, fun σ2 H2 ρ2 B2 o2 e2 q2 => k4 σ2 H2 ρ2 B2 o2 (ec.trans e2) q2, k5⟩
theorem ssx_ret {e : Expr} {pos : Pos} {m : En → M D} (he : SEX X aw C W e m) : SSX X aw C W (.Return (some e) pos) (sRet m) := ps_to (ps_ret he) fun Dn σ H => by
  rintro ⟨G, B, ρ, P, o, hs, k1, k2, k3, k4, k5⟩
  refine ⟨G, B, ρ, _, o, hs, fun v H1 d e1 w1 r1 q1 => ?_, fun H' dx z e1 w1 hd q1 => ?_⟩
  · have o1 := o.grow e1 w1
    obtain ⟨w2, r2⟩ := ret_less o1 r1
    exact k2 v H1 d o1.ext w2 r2 q1
  · have o1 := o.grow e1 w1
    obtain ⟨w2, _⟩ := ret_less o1 .non
    exact k5 σ H' dx z o1.ext w2 hd q1
/-- name, .. = e, where e may raise -/
def sAsgX (m : En → M D) (g : MG) : MS := fun ρ P => m ρ fun d => (∀ z, excOf d = some z → P.rt d) ∧ (excOf d = none → g d ρ P.nx)
/-- raise C('z') -/
def sRaise (z : Str) : MS := fun _ P => P.rt (exD z)
/-- what the written part says of the class, for raise C('z') -/
structure RaiseAt (P : Program) (w : PySem.World) (K : PySem.W.Frag) (mg : Str → Option Value) (base : Heap) (x : Str) (C : Addr) : Prop where
  T : OexC K C
  gm : mg x = some (.ref C)
  ini : ∃ fI fd k, PySem.W.findIn K (.ref C) "__init__" = some (some (.ref fI)) ∧ PySem.W.typeIn K (.ref fI) = some (.type "function") ∧ FnOk P w K mg base CX0 k fI fd ["self", "word"] (spInit K C) ∧ Binds K fd ["self", "word"] [] ∧ k ≤ 1
theorem ssx_raise {x z : Str} {j k : Nat} {p p2 p3 pos : Pos} (hc : X.calm = true) (tk : Takes X W) (R : RaiseAt X.prog X.w X.K X.mg X.base x C) (hr : Room (k + 2) X.A) (hg : Gl X x) (hz : z.length ≤ 1000) (hdb : (x == ("__debug__" : Str)) = false := by decide)
    (he : starEach [.Constant (.str z) j p2] X.env = (false, eval (.Constant (.str z) j p2) X.env) :: starEach [] X.env := by rfl) (hpl : (backTo p3 (starEach [] X.env)).any (·.1) = false := by rfl) :
    SSX X aw C W (.Raise (some (.Call (.Name x p) [.Constant (.str z) j p2] [] p3)) none pos) (sRaise z) := by
  obtain ⟨fI, fd, k0, i1, i2, F1, hb, hk⟩ := R.ini
  have ha : PA X [.Constant (.str z) j p2] (tCons (tC (.str z)) tNil) := pa_cons pe_str pa_nil
  refine ps_to (ps_raise hc tk (pmk_oex R.T i1 i2 F1 (hr.mono (by omega)) hb .nil pass0 hg R.gm ha hdb he hpl)) fun Dn σ H => ?_
  rintro ⟨G, B, ρ, P, o, hs, k1, k2, k3, k4, k5⟩
  refine ⟨by show 1 ≤ 1000; decide, fun a hn => ⟨a, z, rfl, R.T, upd_same, hz, fun dx h1 h2 => ?_⟩⟩
  have hd : H dx = none := by rw [upd_ne h2] at h1; exact h1
  refine ⟨rfl, dx, [("word", .str z)], upd_same, by rw [upd_ne h2, upd_same], hd, ?_⟩
  have eq : ∀ b u, H b = some u → (upd (del (upd (upd (upd H a (exo a C none)) dx (exd dx [("word", .str z)])) a (exo a C (some dx))) a) dx (.xd [("word", .str z)])) b = some u := fun b u hb => by
    have n1 : b ≠ dx := ne_of_none hb hd
    have n2 : b ≠ a := ne_of_none hb hn
    rw [upd_ne n1, del_ne n2, upd_ne n2, upd_ne n1, upd_ne n2]
    exact hb
  have e1 : Ext aw H (upd (del (upd (upd (upd H a (exo a C none)) dx (exd dx [("word", .str z)])) a (exo a C (some dx))) a) dx (.xd [("word", .str z)])) := ⟨fun b u _ hb => eq b u hb, fun x _ kvs hx => ⟨kvs, eq _ _ hx⟩⟩
  have w1 : World aw (cut (upd (del (upd (upd (upd H a (exo a C none)) dx (exd dx [("word", .str z)])) a (exo a C (some dx))) a) dx (.xd [("word", .str z)])) B) := o.wld.ext (cut_ext e1) fun y ey => by
    obtain ⟨kvs, hy⟩ := o.wld.ne y ey
    rw [hy]
    obtain ⟨h3, h4⟩ := cut_some hy
    exact cut_of (eq _ _ h3) h4
  have o1 := o.grow e1 w1
  obtain ⟨w2, _⟩ := ret_less o1 .non
  exact k5 _ _ dx z o1.ext w2 upd_same hs
end
/-! ### defs -/
section
variable {P : Program} {w : PySem.World} {K : PySem.W.Frag} {mg : Str → Option Value} {base : Heap} {C : Addr}
theorem dx_of {x qual : Str} {st : Stmt} {f : Addr} {fd : FuncData} {N ps : List Str} {n k nl : Nat} {s : MS} (F : Fun K x qual st f fd) (S : FnScope N ps (defScope st)) (hn : ps.length = n) (hnl : N.length = nl) (gm : mg x = some (.ref f)) (b : Binds K fd ps [])
    (hb : ∀ (cdv : Value) (A : Around) (outer : List Env) (s0 : Shared) (H : Hp) (E : XK) (aw : Option Addr), Room k (A.deeper (envOfC qual (defScope st) s0.heap.objs.size f cdv)) → Takes (cxOf (L2.CX P w) P w K mg base N qual (defScope st) f cdv A outer s0 H E) (fun cls d _ H => E cls d H) →
      SSsX (cxOf (L2.CX P w) P w K mg base N qual (defScope st) f cdv A outer s0 H E) aw C (fun cls d _ H => E cls d H) (defBody st) s) :
    Dx P w K mg base C x n (k + 1) (bodyF nl s) := by
  subst hn hnl
  refine ⟨f, fd, ps, rfl, gm, F.kp, b, F.okX S (fun vs H Q E h => ?_) (fun cdv A outer s0 H vs Q E hr h => ?_)⟩
  · obtain ⟨_, _, _, _, h, _⟩ := h
    exact h
  · obtain ⟨aw, B, ds, P', hl, wl, hB, r, hF, q, qx⟩ := h
    refine ⟨_, hb cdv A outer s0 H E aw hr (takes_of rfl rfl rfl rfl), ⟨H, B⟩, B, env0 N.length ds, _, ok_start wl hB r, hF, fun σ' H' ρ' B' o' e' q' => ?_, fun v H' d e' w' r' q' => q v H' d e' w' r' q', fun _ _ _ _ _ _ z => z.elim, fun _ _ _ _ _ _ z => z.elim, fun σ' H' dx z e' w' hd q' => qx H' dx z e' w' hd q'⟩
    obtain ⟨w2, r2⟩ := ret_less o' (.non)
    exact q .non H' .none o'.ext w2 r2 q'
/-- where it must not raise -/
def noX (F : List D → M D) : List D → M D := fun ds Q => F ds fun d => excOf d = none ∧ Q d
theorem Dx.df {x : Str} {n k : Nat} {F : List D → M D} (h : Dx P w K mg base C x n k F) : Df P w K mg base x n k (noX F) := by
  obtain ⟨f, fd, ps, h0, h1, h2, h3, h4⟩ := h.ex
  refine ⟨f, fd, ps, h0, h1, h2, h3, ⟨fun vs H Q E q => by obtain ⟨_, _, _, _, q, _⟩ := q; rw [q, h0], fun A outer s H args us vs Q E hr e0 hb r q => ?_⟩⟩
  obtain ⟨aw, B, ds, P', hl, wl, hB, rr, hF, q⟩ := q
  refine codeAny_mono (h4.run A outer s H args us vs Q (fun _ _ _ => False) hr e0 hb r ⟨aw, B, ds, _, hl, wl, hB, rr, hF, fun v H' d e' w' r' q' => q v H' d e' w' r' q'.2, fun H' dx z _ _ _ q' => by have := q'.1; rw [excOf_exD] at this; cases this⟩) fun rs s' z => ?_
  cases rs with
  | ok fl => cases fl <;> exact z
  | error e =>
    obtain ⟨_, _, _, _, _, _, _, _, _, _, _, _, z⟩ := z
    exact z.elim
end


/-! ### try: body, except PlaneError as e: return e.word if isinstance(e, Unfit) else .. -/
/-- what the written part says of the two classes -/
structure TryAt (K : PySem.W.Frag) (mg : Str → Option Value) (C CP : Addr) : Prop where
  T : OexC K C
  X : XfC K C
  E : ExcC K C
  fld : PySem.W.findIn K (.ref C) "word" = some none
  one : PySem.W.exmOne K (.ref C) (.ref CP) = some true
  kit : PySem.W.kitOne K (.ref C) (.ref C) = some true
  gC : mg "Unfit" = some (.ref C)
  gP : mg "PlaneError" = some (.ref CP)
  iso : mg "isinstance" = none
def rIsW (K : PySem.W.Frag) (C a : Addr) (cls : Value) (d : Option Addr) : List V → Hp → VK → Prop := fun xs H Q => ∃ (dd : Addr) (fs : List (Str × V)), xs = [.ref a, .ref C] ∧ cls = .ref C ∧ d = some dd ∧ H dd = some (.xd fs) ∧ Q (.bl true) H
theorem call_isW {X : Cx} {mg : Str → Option Value} {a C CP : Addr} {oe : Obj} {cls : Value} {d : Option Addr} {pn : List (Addr × Obj)} (Z : TryAt X.K mg C CP) (hz : Zc cls d oe) (hf : ∃ vs, oe.data = .fields vs) : CallR (X.suite a ((a, oe) :: pn)) (.builtin "isinstance") (rIsW X.K C a cls d) := by
  intro pins s σ H xs us Q I r h
  obtain ⟨dd, fs, rfl, rfl, rfl, hd, q⟩ := h
  cases r with
  | cons rx rr =>
  cases rr with
  | cons rt rr =>
  cases rr
  cases rx
  cases rt
  obtain ⟨hget, _⟩ := I.pin (a, oe) (List.mem_append.mpr (.inl List.mem_cons_self))
  obtain ⟨vs, hv⟩ := hf
  have hx : ObjOk X.prog X.w H s.heap dd (.xd fs) := I.hok dd _ hd
  obtain ⟨mA, hns, hr⟩ := hx
  obtain ⟨od, ho, hl⟩ := lookIn_ns hns
  have J : PySem.W.InstAt s.heap a oe C (some od) := ⟨hget, hz.1, by unfold PySem.W.notCls; rw [hv] <;> rfl, by rw [hz.2]; exact ho⟩
  have hcl : (PySem.W.clsIn X.K C).isSome = true := by
    obtain ⟨nm, q2, N, bs, bm, sn, sub, ab, col, dd, k0, k1, k2, k3, k5, hC, hbm⟩ := Z.T.cls
    unfold PySem.W.clsIn
    rw [hC]
    rfl
  exact PySem.W.kia_one (PySem.W.kitx_exc hcl Z.E.hg Z.E.hk Z.E.hs Z.E.ha Z.E.hn Z.E.ht Z.E.hm) I.kIn J Z.kit (fun z => nomatch z) fun tk => ⟨.bl true, H, I.kept (t' := tk) fun _ _ z => z, rfl, q⟩
def sTry (s : MS) : MS := fun ρ P => s ρ { P with rt := fun d => match excOf d with
  | some z => P.rt (.str z)
  | none => P.rt d }
theorem ss_tryU {X : Cx} {aw : Option Addr} {C CP : Addr} {body : List Stmt} {s : MS} {i j : Nat} {bad : Str} {np p0 p1 p2 p3 p4 p5 p6 p7 pr pos pos' : Pos} (Z : TryAt X.K X.mg C CP) (hs : X.stack = X.env :: X.outer) (hf : X.env.frame = some X.env.locals) (hN : X.N.Nodup) (hi : X.N[i]? = some ("e" : Str)) (hln : X.env.kindOf "e" = some .local)
    (hgP : Gl X "PlaneError") (hgU : Gl X "Unfit") (hgi : Gl X "isinstance")
    (hb : ∀ (W : WX) (pn : List (Addr × Obj)) (xe : Value → Shared → Prop), Takes (X.tr pn xe) W → SSsX (X.tr pn xe) aw C W body s)
    (hat : ∀ env : Env, attributeBase (.Name "e" p6) "word" env (eval (.Name "e" p6) env) = eval (.Name "e" p6) env)
    (htr : ∀ env whole, isTrue (.Call (.Name "isinstance" p2) [.Name "e" p3, .Name "Unfit" p4] [] p5) env whole = (do let v ← whole; standAt (Expr.Call (.Name "isinstance" p2) [.Name "e" p3, .Name "Unfit" p4] [] p5).pos; holding [v] (truthy v)))
    (hst : ∀ env : Env, starEach [.Name "e" p3, .Name "Unfit" p4] env = (false, eval (.Name "e" p3) env) :: starEach [.Name "Unfit" p4] env)
    (hst2 : ∀ env : Env, starEach [.Name "Unfit" p4] env = (false, eval (.Name "Unfit" p4) env) :: starEach [] env)
    (hpl : ∀ env : Env, (backTo p5 (starEach [.Name "Unfit" p4] env)).any (·.1) = false) :
    SS X aw (.Try body [.ExceptHandler (some (.Name "PlaneError" np)) (some "e") [.Return (some (.IfExp (.Call (.Name "isinstance" p2) [.Name "e" p3, .Name "Unfit" p4] [] p5) (.Attribute (.Name "e" p6) "word" p7) (.Constant (.str bad) j p1) pr)) pos'] pos] [] [] p0) (sTry s) := by
  have hv : Vis X.env.scope "e" := .inl hln
  have hsu : ∀ (a : Addr) (oe : Obj) (cls : Value) (d : Option Addr) (pn : List (Addr × Obj)), Zc cls d oe → (∃ vs, oe.data = .fields vs) → PSs (X.suite a ((a, oe) :: pn)) [.Return (some (.IfExp (.Call (.Name "isinstance" p2) [.Name "e" p3, .Name "Unfit" p4] [] p5) (.Attribute (.Name "e" p6) "word" p7) (.Constant (.str bad) j p1) pr)) pos'] (tRet (tIf (tB (tCB (rIsW X.K C a cls d) (tCons (tVar i) (tCons (tC (.ref C)) tNil)))) (tXf a cls d C "word" (tVar i)) (tC (.str bad)))) := fun a oe cls d pn hz hf =>
    pss_one (ps_ret (pe_ifExp (pt_val (pe_callB (call_isW Z hz hf) hgi Z.iso (by decide +kernel) (pa_cons (pe_var (i := i) hi hv) (pa_cons (pe_glob (v := .ref C) hgU Z.gC rfl) pa_nil (hst2 _)) (hst _)) (by decide) (by decide) (hst _) (hpl _)) (htr _)) (pe_xf Z.X Z.fld hz hf (pe_var (i := i) hi hv) (hat _)) pe_str))
  have tkl : ∀ (W : WX) (pn : List (Addr × Obj)) (xe : Value → Shared → Prop), Takes (X.tr pn xe) W → Takes (X.tr pn xe) (fun cls d σ H => σ.length = X.N.length → W cls d σ H) := fun W pn xe tk u s' x => by
    obtain ⟨a, B, sI, pins, σ, H, cls, d, e, I, nb, up, sky, na, os, ag, w⟩ := x
    exact tk u s' ⟨a, B, sI, pins, σ, H, cls, d, e, I, nb, up, sky, na, os, ag, w I.len⟩
  refine ps_to (ps_try_as (tb := fun W => tSX X.K aw C (fun cls d σ H => σ.length = X.N.length → W cls d σ H) s) hs hf hN hi hln ⟨hgP, by decide, .inl Z.gP⟩ takes0 (fun W pn xe tk _ => hb _ pn xe (tkl W pn xe tk)) hsu) fun Dn σ H => ?_
  rintro ⟨G, B, ρ, P, o, hm, k1, k2, k3, k4⟩
  refine ⟨G, B, ρ, _, o, hm, k1, fun v H' d e' w' r' q' => ?_, k3, k4, fun σ' H' dx z e' w' hd q' => ?_⟩
  · have q' : (match excOf d with | some z => P.rt (.str z) | none => P.rt d) := q'
    rw [excOf_rp r'] at q'
    exact k2 v H' d e' w' r' q'
  · have q' : P.rt (.str z) := q'
    intro hlen
    refine ⟨true, Z.one, fun _ a ha => ?_, fun h => nomatch h⟩
    have hil : i < σ'.length := by rw [hlen]; exact (List.getElem?_eq_some_iff.mp hi).1
    have hset : (σ'.set i (some (.ref a)))[i]? = some (some (.ref a)) := List.getElem?_set_self hil
    refine ⟨.ref a, hset, dx, [("word", .str z)], rfl, rfl, rfl, hd, true, rfl, ?_⟩
    show tXf a (Value.ref C) (some dx) C "word" (tVar i) (σ'.set i (some (.ref a))) H' Dn.rt
    refine ⟨.ref a, hset, rfl, rfl, dx, [("word", .str z)], .str z, rfl, hd, rfl, ?_⟩
    exact k2 (.str z) H' (.str z) e' w' (.str z) q'


theorem ssx_asg {X : Cx} {aw : Option Addr} {C : Addr} {W : WX} {e c : Expr} {pos : Pos} {m : En → M D} {g : MG} {is : List Nat} (he : SEX X aw C W e m) (hg : SG X aw is c g) (hs : swapsWithSole [c] e pos.line X.env = pure false := by rfl) (hw : swappedStores [c] e X.env = pure none := by rfl) (h1 : (assignEach [c] X.env).map (·.2) = [assign c X.env] := by rfl) : SSX X aw C W (.Assign [c] e pos) (sAsgX m g) :=
  ps_to (ps_asg he hg hs hw h1) fun Dn σ H => by
    rintro ⟨G, B, ρ, P, o, hs, k1, k2, k3, k4, k5⟩
    refine ⟨G, B, ρ, _, o, hs, fun v H1 d e1 w1 r1 q1 => ?_, fun H' dx z e1 w1 hd q1 => ?_⟩
    · have o1 := o.grow e1 w1
      exact ⟨G, B, ρ, d, _, o1, r1, q1.2 (excOf_rp r1), fun σ' ρ' o' _ q' => k1 σ' H1 ρ' B o' (cut_ext e1) q'⟩
    · have o1 := o.grow e1 w1
      obtain ⟨w2, _⟩ := ret_less o1 .non
      exact k5 σ H' dx z o1.ext w2 hd (q1.1 z rfl)
theorem ssx_freeze {X : Cx} {aw : Option Addr} {C : Addr} {W : WX} {sts : List Stmt} {s : MS} {i : Nat} (h : SSsX X aw C W sts s) : SSsX X aw C W sts (sFreeze i s) := pss_to h fun Dn σ H => by
  rintro ⟨G, B, ρ, P, o, hs, k1, k2, k3, k4, k5⟩
  unfold sFreeze at hs
  split at hs
  · rename_i ds hd
    obtain ⟨B', o', ec⟩ := o.freeze hd
    exact ⟨G, B', _, P, o', hs, fun σ2 H2 ρ2 B2 o2 e2 q2 => k1 σ2 H2 ρ2 B2 o2 (ec.trans e2) q2, k2, fun σ2 H2 ρ2 B2 o2 e2 q2 => k3 σ2 H2 ρ2 B2 o2 (ec.trans e2) q2, fun σ2 H2 ρ2 B2 o2 e2 q2 => k4 σ2 H2 ρ2 B2 o2 (ec.trans e2) q2, k5⟩
  · cases hs
/-! ### what the top has written of the exceptions, put together -/
theorem raiseAt {P : Program} {w : PySem.World} {K : PySem.W.Frag} {h : Heap} {mg : Str → Option Value} (X : K.In h) (G : h.Ns mainGlobals mg)
    {C fI cc cda N : Addr} {oc kV doc pm ct ccl cl2 : Value} {od an cdd cld dd : Option Addr} {osl ccs csl : Array (Option Value)} {qual nm q file : Str} {q1 q2 p0 p1 p2 p3 p4 p5 p6 p7 p8 p9 p10 p11 : Pos} {j : Nat} {msg : Str} {bs bm : List Value} {sn : List Str} {sub : List Value} {ab : Bool} {col : Option Bool} {k0 k1 k2 k3 k5 : Option Value} {vs : Array Value} {tf : Tok} {pl : Sem Bool}
    (a : PySem.W.nsIn K mainGlobals "Unfit" = some (some (.ref C)))
    (i : PySem.W.findIn K (.ref C) "__init__" = some (some (.ref fI)))
    (l : K.lookup fI = some ⟨oc, od, .func (PySem.W.ksFn "__init__" qual ⟨[], [⟨"self", none, q1⟩, ⟨"word", none, q2⟩], none, [], [], none, []⟩
      [.Expr (supCall p0 p1 p2 p3 p4 p5 p6 j msg) p7, .Assign [.Attribute (.Name "self" p8) "word" p9] (.Name "word" p10) p11] supScope .none kV doc pm an (.ref cda) ct cc), osl⟩)
    (cl : K.lookup C = some (excClassObj nm q C N bs bm true sn sub ab col dd k0 k1 k2 k3 k5 "ValueError.__new__")) (hbm : PySem.HandSPX.refsVE bm = true)
    (sa : PySem.W.findIn K (.ref C) "__setattr__" = some (some (.builtin "object.__setattr__"))) (exC : PySem.W.subIn K (.ref C) (.type "BaseException") = some true) (tyC : PySem.W.typeIn K (.ref C) = some (.type "type")) (kC : PySem.W.keepIn K (.ref C) = true)
    (ty : PySem.W.typeIn K (.ref fI) = some (.type "function")) (code : PySem.W.codeIn K (.ref cda) qual = true)
    (lc : K.lookup cda = some (⟨ccl, cdd, .fields vs, ccs⟩ : Obj)) (hvs : vs[2]? = some (.str file tf)) (hfile : ((P.main.file : Str) == file) = true)
    (cell : K.lookup cc = some (⟨cl2, cld, .cell (some (.ref C)), csl⟩ : Obj)) (su : PySem.W.nsIn K mainGlobals "super" = some none) (top : (P.main.scope.names.lookup ("super" : Str)).isSome = false)
    (sb : PySem.W.mroIn K C (.ref C) = some true) (no : PySem.W.nsIn K cStatics "thirdparty.any" = some none) (meth : PySem.W.ks_superIn K C C "__init__" = some (some (.builtin "ValueError.__init__"))) (isV : PySem.W.subIn K (.ref C) (.type "ValueError") = some true) (fld : PySem.W.findIn K (.ref C) "word" = some none)
    (hmsg : msg.length ≤ 1000)
    (hev : ∀ env : Env, eval (supCall p0 p1 p2 p3 p4 p5 p6 j msg) env = (do
      let ov ← attributeBase (.Call (.Name "super" p0) [] [] p1) "__init__" env (eval (.Call (.Name "super" p0) [] [] p1) env)
      standAt p2.atName
      let (f, first) ← holding [ov] (getMethod ov "__init__" pl)
      callWith p6 f first (backTo p6 (starEach [.BinOp (.Constant (.str msg) j p3) .Add (.Name "word" p4) p5] env)) []))
    (hsw : ∀ env : Env, swapsWith (supCall p0 p1 p2 p3 p4 p5 p6 j msg) none p7.line env = pure false)
    (hsw2 : ∀ env : Env, swapsWith (.Name "word" p10) (some (.Attribute (.Name "self" p8) "word" p9)) p11.line env = pure false) :
    ∀ base : Heap, RaiseAt P w K mg base "Unfit" C := fun base => by
  have Z : SupAt P K mg C fI cc cda qual ⟨[], [⟨"self", none, q1⟩, ⟨"word", none, q2⟩], none, [], [], none, []⟩ :=
    ⟨rfl, code, ⟨_, _, _, _, _, _, lc, hvs, hfile⟩, ⟨_, _, _, cell⟩, PySem.W.mg_none_of X G su, top, sb, no, meth, isV, fld⟩
  refine ⟨⟨⟨_, _, _, _, _, _, _, _, _, _, _, _, _, _, _, cl, hbm⟩, sa, exC, tyC, kC⟩, PySem.W.mg_of X G a, fI, _, 1, i, ty, sup_fn (k := 0) Z hmsg hev hsw hsw2 l, .all fun us hl => ?_, Nat.le_refl _⟩
  match us, hl with
  | [_, _], _ => rfl
theorem tryAt {K : PySem.W.Frag} {h : Heap} {mg : Str → Option Value} (X : K.In h) (G : h.Ns mainGlobals mg) {C CP N : Addr} {nm q : Str} {bs bm : List Value} {sn : List Str} {sub : List Value} {ab : Bool} {col : Option Bool} {dd : Option Addr} {k0 k1 k2 k3 k5 : Option Value}
    (u : PySem.W.nsIn K mainGlobals "Unfit" = some (some (.ref C))) (a : PySem.W.nsIn K mainGlobals "PlaneError" = some (some (.ref CP))) (iso : PySem.W.nsIn K mainGlobals "isinstance" = some none)
    (cl : K.lookup C = some (excClassObj nm q C N bs bm true sn sub ab col dd k0 k1 k2 k3 k5 "ValueError.__new__")) (hbm : PySem.HandSPX.refsVE bm = true)
    (sa : PySem.W.findIn K (.ref C) "__setattr__" = some (some (.builtin "object.__setattr__"))) (tyC : PySem.W.typeIn K (.ref C) = some (.type "type")) (kC : PySem.W.keepIn K (.ref C) = true)
    (x1 : PySem.W.findIn K (.ref C) "__getattribute__" = some (some (.builtin "BaseException.__getattribute__"))) (x2 : PySem.W.findIn K (.ref C) "__getattr__" = some none) (x3 : PySem.W.subIn K (.ref C) (.type "BaseException") = some true) (x4 : PySem.W.hasDictIn K C = true)
    (x5 : PySem.W.findIn K (.ref C) "__class__" = some (some (.builtin "object.__class__"))) (x6 : PySem.W.specialIn K (.builtin "object.__class__") "__get__" = some (some (.builtin "getset_descriptor.__get__"))) (x7 : PySem.W.takesIn K (.builtin "object.__class__") = some true) (x8 : PySem.W.mroIn K C (.type "object") = some true)
    (fld : PySem.W.findIn K (.ref C) "word" = some none) (one : PySem.W.exmOne K (.ref C) (.ref CP) = some true) (kit : PySem.W.kitOne K (.ref C) (.ref C) = some true) : TryAt K mg C CP :=
  ⟨⟨⟨_, _, _, _, _, _, _, _, _, _, _, _, _, _, _, cl, hbm⟩, sa, x3, tyC, kC⟩, ⟨x1, x2, x3, x4⟩, ⟨x1, x2, x3, x4, x5, x6, x7, x8⟩, fld, one, kit, PySem.W.mg_of X G u, PySem.W.mg_of X G a, PySem.W.mg_none_of X G iso⟩

/-! ### walks that end while an exception is handled -/
section
variable {prog : Program} {w : PySem.World} {A : Around} {E : Value → Shared → Prop} {s : Shared}
theorem hot_more {x1 : Addr} {s' : Shared} (h : HotX.HotAt A x1 s.heap) (k : ∀ o, s.heap.get? x1 = some o → s'.heap.get? x1 = some o) : HotX.HotAt A x1 s'.heap := by
  obtain ⟨a, o, vs, b, c, d⟩ := h
  exact ⟨a, o, vs, k o b, c, d⟩
theorem lend_hot {it l x1 : Addr} {i : Nat} {items : Array Value} {Q : Option Value → Shared → Prop} (hot : HotX.HotAt A x1 s.heap) (hne : x1 ≠ it)
    (hit : s.heap.IsListIter it l i) (hl : s.heap.IsList l items) (hx : items[i]? = none)
    (hQ : ∀ h', Heap.ExtBut it s.heap h' → Q none { s with heap := h' }) : wpAny (model prog w) A (pyNext (.ref it)) Q E s := by
  obtain ⟨hh, o1, vs1, h1, d1, c1⟩ := hot
  obtain ⟨o, ho, hc, hd⟩ := id hit
  obtain ⟨ol, hol, _, nl, hdl⟩ := hl
  unfold pyNext
  refine wpAny_bind (wpAny_attempt (wpAny_callSpecial?_slot (name := Str.ofString "__next__") hit.typeIs slot_listiter_next (wpAny_call_entry slot_listiter_next hit.typeIs entry_listiter_next ?_ (args_listiter_next _))))
  show wpAny _ _ (field (.ref it) 0 >>= _) _ _ s
  refine wpAny_bind (wpAny_field ho hd (x := .ref l) rfl ?_)
  show wpAny _ _ (if (Value.ref l == Value.none) = true then _ else _) _ _ s
  rw [if_neg (c := (Value.ref l == Value.none) = true) (fun z => nomatch (show false = true from z))]
  show wpAny _ _ (field (.ref it) 1 >>= _) _ _ s
  refine wpAny_bind (wpAny_field ho hd (x := .int i 0) rfl ?_)
  show wpAny _ _ (seqItems? (.ref l) >>= _) _ _ s
  refine wpAny_bind (wpAny_seqItems hol hdl ?_)
  simp only [Int.toNat_natCast, hx]
  refine wpAny_bind (wpAny_rule (wpAny_bind (wpAny_setField ho hd (by simp) ?_)))
  have h2 : (s.heap.update it (Obj.mapFields (·.setIfInBounds 0 Value.none))).get? x1 = some o1 := by rw [Heap.get?_update_other _ _ (Ne.symm hne)]; exact h1
  show wpAny _ _ (newExc (.type "StopIteration") [] >>= _) _ _ _
  refine wpAny_bind ?_
  simp only [newExc, newTuple]
  refine wpAny_bind (wpAny_newObj_type ?_ (by size_fits))
  refine wpAny_bind (m := firstArgMember _ _) (wpAny_of_eq (a := Value.none) (by first | rfl | (simp only [firstArgMember]; rfl)) ?_)
  refine wpAny_newObj_type ?_ (by size_fits)
  refine HotX.raiseNew_hot ⟨hh, o1, vs1, Heap.get?_push_of_some _ (Heap.get?_push_of_some _ h2), d1, c1⟩ (Nat.ne_of_lt (Heap.lt_size (Heap.get?_push_of_some _ h2))) (Heap.get?_push_size _ rfl) rfl (by first | (simp; done) | (simp; omega) | (simp only [Array.size_append]; simp; omega)) ?_
  refine wpAny_bind (wpAny_isInstance (T := "StopIteration") (b := true) ⟨_, Heap.get?_update_self _ (Heap.get?_push_size _ rfl) rfl, rfl⟩ isSubtype_stop ?_)
  refine wpAny_pure (hQ _ fun b u nb e => ?_)
  have e2 : (s.heap.update it (Obj.mapFields (·.setIfInBounds 0 Value.none))).get? b = some u := by rw [Heap.get?_update_other _ _ (Ne.symm nb)]; exact e
  rw [Heap.get?_update_other _ _ (Nat.ne_of_gt (Heap.lt_size (Heap.get?_push_of_some _ e2)))]
  exact Heap.get?_push_of_some _ (Heap.get?_push_of_some _ e2)
theorem tend_hot {it l x1 : Addr} {i : Nat} {items : Array Value} {Q : Option Value → Shared → Prop} (hot : HotX.HotAt A x1 s.heap) (hne : x1 ≠ it)
    (hit : IsTupIter s.heap it l i) (hl : IsTup s.heap l items) (hx : items[i]? = none)
    (hQ : ∀ h', Heap.ExtBut it s.heap h' → Q none { s with heap := h' }) : wpAny (model prog w) A (pyNext (.ref it)) Q E s := by
  obtain ⟨hh, o1, vs1, h1, d1, c1⟩ := hot
  obtain ⟨o, ho, hc, hd⟩ := id hit
  obtain ⟨ol, hol, _, nl, hdl⟩ := hl
  unfold pyNext
  refine wpAny_bind (wpAny_attempt (wpAny_callSpecial?_slot (name := Str.ofString "__next__") hit.typeIs slot_tupleiter_next (wpAny_call_entry slot_tupleiter_next hit.typeIs entry_tupleiter_next ?_ (args_tupleiter_next _))))
  show wpAny _ _ (field (.ref it) 0 >>= _) _ _ s
  refine wpAny_bind (wpAny_field ho hd (x := .ref l) rfl ?_)
  show wpAny _ _ (if (Value.ref l == Value.none) = true then _ else _) _ _ s
  rw [if_neg (c := (Value.ref l == Value.none) = true) (fun z => nomatch (show false = true from z))]
  show wpAny _ _ (field (.ref it) 1 >>= _) _ _ s
  refine wpAny_bind (wpAny_field ho hd (x := .int i 0) rfl ?_)
  show wpAny _ _ (seqItems? (.ref l) >>= _) _ _ s
  refine wpAny_bind (wpAny_seqItems hol hdl ?_)
  simp only [Int.toNat_natCast, hx]
  refine wpAny_bind (wpAny_rule (wpAny_bind (wpAny_setField ho hd (by simp) ?_)))
  have h2 : (s.heap.update it (Obj.mapFields (·.setIfInBounds 0 Value.none))).get? x1 = some o1 := by rw [Heap.get?_update_other _ _ (Ne.symm hne)]; exact h1
  show wpAny _ _ (newExc (.type "StopIteration") [] >>= _) _ _ _
  refine wpAny_bind ?_
  simp only [newExc, newTuple]
  refine wpAny_bind (wpAny_newObj_type ?_ (by size_fits))
  refine wpAny_bind (m := firstArgMember _ _) (wpAny_of_eq (a := Value.none) (by first | rfl | (simp only [firstArgMember]; rfl)) ?_)
  refine wpAny_newObj_type ?_ (by size_fits)
  refine HotX.raiseNew_hot ⟨hh, o1, vs1, Heap.get?_push_of_some _ (Heap.get?_push_of_some _ h2), d1, c1⟩ (Nat.ne_of_lt (Heap.lt_size (Heap.get?_push_of_some _ h2))) (Heap.get?_push_size _ rfl) rfl (by first | (simp; done) | (simp; omega) | (simp only [Array.size_append]; simp; omega)) ?_
  refine wpAny_bind (wpAny_isInstance (T := "StopIteration") (b := true) ⟨_, Heap.get?_update_self _ (Heap.get?_push_size _ rfl) rfl, rfl⟩ isSubtype_stop ?_)
  refine wpAny_pure (hQ _ fun b u nb e => ?_)
  have e2 : (s.heap.update it (Obj.mapFields (·.setIfInBounds 0 Value.none))).get? b = some u := by rw [Heap.get?_update_other _ _ (Ne.symm nb)]; exact e
  rw [Heap.get?_update_other _ _ (Nat.ne_of_gt (Heap.lt_size (Heap.get?_push_of_some _ e2)))]
  exact Heap.get?_push_of_some _ (Heap.get?_push_of_some _ e2)
/-! unpacking there -/
theorem litems_hot {l x1 : Addr} {items : Array Value} {Q : List Value → Shared → Prop} (hot : HotX.HotAt A x1 s.heap) (hl : s.heap.IsList l items)
    (hQ : ∀ h', Heap.ExtBut s.heap.objs.size s.heap h' → Q items.toList { s with heap := h' }) : wpAny (model prog w) A (unpackItems (.ref l) items.size none) Q E s := by
  have nl : l ≠ s.heap.objs.size := by obtain ⟨o, ho, _⟩ := hl; exact Nat.ne_of_lt (Heap.lt_size ho)
  have nx : x1 ≠ s.heap.objs.size := by obtain ⟨_, o, _, ho, _⟩ := hot; exact Nat.ne_of_lt (Heap.lt_size ho)
  unfold unpackItems
  refine wpAny_bind ?_
  unfold notIterableAtAll
  refine wpAny_bind (wpAny_specialOf hl.typeIs slot_list_iter.lookup (wpAny_pure ?_))
  simp only [Bool.false_eq_true, if_false]
  refine wpAny_bind (wpAny_holding (wpAny_pyIter_list hl (wpAny_bind (wpAny_holding (PySem.W.kun_draw nl items.size 0 _ _ ⟨_, Heap.get?_push_size _ rfl, rfl, rfl⟩ (hl.push _) (by omega) fun h1 i1 k1 => ?_)))))
  rw [List.drop_zero, List.take_of_length_le (Nat.le_of_eq (Array.length_toList (xs := items))), if_neg (by simp)]
  have hot1 : HotX.HotAt A x1 h1 := hot_more (s' := { s with heap := h1 }) hot fun o e => k1.extBut x1 o nx (Heap.get?_push_of_some _ e)
  refine wpAny_bind (wpAny_holding (lend_hot (s := { s with heap := h1 }) hot1 nx i1 ((hl.push _).extBut k1.extBut nl) (by simp) fun h2 k2 => ?_))
  simp only [Option.isSome_none, Bool.false_eq_true, if_false]
  exact wpAny_pure (hQ h2 fun b o hb e => k2 b o hb (k1.extBut b o hb (Heap.get?_push_of_some _ e)))
theorem titems_hot {l x1 : Addr} {items : Array Value} {Q : List Value → Shared → Prop} (hot : HotX.HotAt A x1 s.heap) (hl : IsTup s.heap l items)
    (hQ : ∀ h', Heap.ExtBut s.heap.objs.size s.heap h' → Q items.toList { s with heap := h' }) : wpAny (model prog w) A (unpackItems (.ref l) items.size none) Q E s := by
  have nl : l ≠ s.heap.objs.size := by obtain ⟨o, ho, _⟩ := hl; exact Nat.ne_of_lt (Heap.lt_size ho)
  have nx : x1 ≠ s.heap.objs.size := by obtain ⟨_, o, _, ho, _⟩ := hot; exact Nat.ne_of_lt (Heap.lt_size ho)
  unfold unpackItems
  refine wpAny_bind ?_
  unfold notIterableAtAll
  refine wpAny_bind (wpAny_specialOf hl.typeIs slot_tuple_iter.lookup (wpAny_pure ?_))
  simp only [Bool.false_eq_true, if_false]
  refine wpAny_bind (wpAny_holding (iter_tuple hl (wpAny_bind (wpAny_holding (draw_tuple nl items.size 0 _ _ ⟨_, Heap.get?_push_size _ rfl, rfl, rfl⟩ (hl.push _) (by omega) fun h1 i1 k1 => ?_)))))
  rw [List.drop_zero, List.take_of_length_le (Nat.le_of_eq (Array.length_toList (xs := items))), if_neg (by simp)]
  have hot1 : HotX.HotAt A x1 h1 := hot_more (s' := { s with heap := h1 }) hot fun o e => k1.extBut x1 o nx (Heap.get?_push_of_some _ e)
  refine wpAny_bind (wpAny_holding (tend_hot (s := { s with heap := h1 }) hot1 nx i1 ((hl.push _).extBut k1.extBut nl) (by simp) fun h2 k2 => ?_))
  simp only [Option.isSome_none, Bool.false_eq_true, if_false]
  exact wpAny_pure (hQ h2 fun b o hb e => k2 b o hb (k1.extBut b o hb (Heap.get?_push_of_some _ e)))
end
section
variable {X : Cx} {pos : Pos}
theorem pg_unlH {es : List Expr} {k n : Nat} {t : TGs} (hc : L2H.HotC X) (h : PGs X es t) (hn : (assignEach es X.env).length = n := by rfl) (hst : (assignEach es X.env).findIdx? (·.1) = none := by rfl) : PG X (.Tuple es k pos) (gUnl X.K n t) := by
  refine ⟨fun pins s σ H v u Q I r hw => ?_⟩
  obtain ⟨a, xs, rfl, hq, hl, hw⟩ := hw
  cases r
  obtain ⟨x1, hot⟩ := hc.at I
  obtain ⟨its, rv, pl, _⟩ := I.list hq
  have pl' : s.heap.IsList a its.toArray := pl.isList
  have hs : (assignEach es X.env).length = its.toArray.size := by rw [hn, ← hl, rv.length, List.size_toArray]
  rw [PyProof.Rows.assign_Tuple]
  refine wpAny_bind (wpAny_standAt ?_)
  unfold unpack
  rw [hs, hst]
  refine wpAny_bind (wpAny_holding (litems_hot hot pl' fun h' hx => ?_))
  have I1 : Inv X pins σ H { s with heap := h' } := I.kept (t' := s.toks) fun b o e => hx b o (Nat.ne_of_lt (Heap.lt_size e)) e
  exact h.run pins _ σ H xs its Q I1 rv hw
theorem pg_tupH {es : List Expr} {k n : Nat} {t : TGs} (hc : L2H.HotC X) (h : PGs X es t) (hn : (assignEach es X.env).length = n := by rfl) (hst : (assignEach es X.env).findIdx? (·.1) = none := by rfl) : PG X (.Tuple es k pos) (gTup X.K n t) := by
  refine ⟨fun pins s σ H v u Q I r hw => ?_⟩
  obtain ⟨a, xs, rfl, hq, hl, hw⟩ := hw
  cases r
  obtain ⟨x1, hot⟩ := hc.at I
  obtain ⟨its, rv, pl, _⟩ := I.tuple hq
  have hs : (assignEach es X.env).length = its.toArray.size := by rw [hn, ← hl, rv.length, List.size_toArray]
  rw [PyProof.Rows.assign_Tuple]
  refine wpAny_bind (wpAny_standAt ?_)
  unfold unpack
  rw [hs, hst]
  refine wpAny_bind (wpAny_holding (titems_hot hot pl fun h' hx => ?_))
  have I1 : Inv X pins σ H { s with heap := h' } := I.kept (t' := s.toks) fun b o e => hx b o (Nat.ne_of_lt (Heap.lt_size e)) e
  exact h.run pins _ σ H xs its Q I1 rv hw
end

/-! ### a list comprehension while an exception is handled -/
theorem turn_listH {P : Program} {w : PySem.World} {K : PySem.W.Frag} {tg : Expr} (a it : Addr) : L2H.TurnH P w K tg (Itl K a) [it] it (fun i h => h.IsListIter it a i) where
  mem := List.mem_singleton.mpr rfl
  obj := fun i h st b hb => by
    obtain rfl : b = it := List.mem_singleton.mp hb
    obtain ⟨o, e, _, d⟩ := st
    exact ⟨o, e, fun v z => by rw [d] at z; cases z⟩
  keep := fun i h h' st k => st.at fun o e => k it (List.mem_singleton.mpr rfl) o e
  item := by
    rintro X rfl rfl rfl hc i pins s σ H E I hf st ⟨xs, x, hq, hx⟩
    obtain ⟨its, rv, p, _⟩ := I.list hq
    obtain ⟨u, hu, ru⟩ := rv.get hx
    have F := hf it (List.mem_singleton.mpr rfl)
    refine wpAny_pyNext_list_item st p.isList (x := u) (by simpa using hu) fun h' st' sb => ?_
    have J : Inv X pins σ H { s with heap := h' } := I.turned (t' := s.toks) (fun b o hb e => (sb.2 b hb).trans e) F.1 F.2.1 F.2.2.2.1 F.2.2.2.2.1 F.2.2.2.2.2
    obtain ⟨o, e, c, d⟩ := id st'
    refine ⟨u, rfl, go_of (s := { s with heap := h' }) e c d (by decide) ⟨x, H, J, ru, ⟨rfl, fun ys hy => ?_⟩, st', fun b hb => (hf b hb).1⟩⟩
    rw [I.list_inj hy hq]
    exact hx
  done := by
    rintro X rfl rfl rfl ⟨p, ⟨hh, v1, e1, c1⟩, hp⟩ i pins s σ H E I hf st ⟨xs, hq, hx⟩
    obtain ⟨its, rv, pl, _⟩ := I.list hq
    have F := hf it (List.mem_singleton.mpr rfl)
    have hl := rv.length
    have ne : p.1 ≠ it := F.2.2.2.2.2 p (List.mem_append_left _ hp)
    refine lend_hot ⟨hh, p.2, v1, (I.pin p (List.mem_append_left _ hp)).1, e1, c1⟩ ne st pl.isList (by simp; omega) fun h' eb => ⟨rfl, ?_⟩
    exact I.turned (t' := s.toks) (fun b o hb e => eb b o hb e) F.1 F.2.1 F.2.2.2.1 F.2.2.2.2.1 F.2.2.2.2.2
  self := fun _ _ _ _ _ st h => wpAny_pyIter_listiter st h
theorem pi_listH {X : Cx} {tg l : Expr} {tl : TE} (hl : PE X l tl) : L2H.PIH X tg l (iList X.K tl) := by
  refine ⟨fun pins s σ H R I h => thn (hl.run pins s σ H _ I h) fun v s1 ⟨x, H1, I1, r1, a, e, ⟨xs, hq⟩, q⟩ => ?_⟩
  subst e
  cases r1
  obtain ⟨its, rv, p, _⟩ := I1.list hq
  refine wpAny_pyIter_list p.isList ⟨_, [s1.heap.objs.size], _, _, H1, rfl, I1.kept (t' := s1.toks) fun b o e => Heap.get?_push_of_some _ e, turn_listH a _, ⟨_, Heap.get?_push_size _ rfl, rfl, rfl⟩, fun b hb => ?_, q⟩
  obtain rfl : b = s1.heap.objs.size := List.mem_singleton.mp hb
  exact I1.fpOk (Nat.le_refl _) (I1.hok.fresh (Nat.le_refl _))
/-- the block's context, the handled exception's object kept in sight -/
abbrev blkP (X : Cx) (s : Shared) (H : Hp) (scope : Scope) (cenv : Env) (fp : List Addr) : Cx := { X.blk s H scope cenv fp with pn := X.pn }
theorem blkP_inv {X : Cx} {s s' : Shared} {H H' : Hp} {scope : Scope} {cenv : Env} {fp : List Addr} {σ : L2.St} (J : Inv (X.blk s H scope cenv fp) [] σ H' s')
    (hp : ∀ p ∈ X.pn, s'.heap.get? p.1 = some p.2 ∧ H' p.1 = none ∧ p.1 ≠ cenv.locals ∧ p.1 ∉ frs X.stack ∧ ∀ v, p.2.data ≠ .cell v) : Inv (blkP X s H scope cenv fp) [] σ H' s' :=
  ⟨⟨J.ok.mod, J.ok.kind, J.ok.glob, J.ok.blt, J.ok.above, J.ok.inj, J.ok.has, J.ok.cab, J.ok.hd, J.ok.frames, J.ok.stk, J.ok.exf, J.ok.bs, J.ok.bsz, J.ok.noex, J.ok.exfs, J.ok.funs, J.ok.frf⟩, J.os, J.bare, J.base, J.loc, J.cell, J.free, J.freeC,
    fun p h => hp p (by rcases List.mem_append.mp h with h | h; exact h; cases h), J.hok, J.len⟩
theorem pe_lcH {X : Cx} {elt tg iter : Expr} {ifs : List Expr} {scope : Scope} {own : List (Str × Nat)} {pos : Pos} {wi : TI} {g : TG} {tt : TT} {te : TE} (hc : L2H.HotC X) (hN : X.N.Nodup) (hi : L2H.PIH X tg iter wi) (ok : BlkOk X.N X.env.scope scope own)
    (hg : ∀ s H C cl fp, PG (blkP X s H scope (compEnvC scope cl C X.env) fp) tg g) (ht : ∀ s H C cl fp, PTs (blkP X s H scope (compEnvC scope cl C X.env) fp) ifs tt)
    (he : ∀ s H C cl fp, PE (blkP X s H scope (compEnvC scope cl C X.env) fp) elt te) (hs : ∀ x, foldedSetIterable iter X.env x = pure x := by intro _; rfl) :
    PE X (.ListComp elt [⟨tg, iter, ifs, 0⟩] scope pos) (tLc wi g tt te (own.map (·.2))) := by
  refine ⟨fun pins s σ H Q I h => ?_⟩
  rw [eval_ListComp]
  have hfr : ∀ y ∈ scope.names, y.2 = .free → ∃ c, X.env.cells.lookup y.1 = some c := fun y hy e => (ok.free y hy e).elim (fun k => I.ok.has _ (.inl k)) fun k => I.ok.has _ (.inr k)
  refine wpAny_comprehension_free (use := none) rfl hs (closure_ok hfr) ok.kind (fun y hy e => by rw [ok.uniq y hy, e]) (thn (hi.run pins s σ H _ I h) fun xv s1 hx => thn hx fun itv s2 hy => ?_)
  obtain ⟨it, fp, tn, J, H2, rfl, I2, T, st2, f2, q⟩ := hy
  refine wpAny_newObj_type (newEnv_comp ?_) (Nat.zero_le _)
  -- the list to be
  obtain ⟨D, hD⟩ : ∃ D, s2.heap.objs.size = D := ⟨_, rfl⟩
  obtain ⟨W, ⟨m0, w0⟩, turn⟩ := q D (I2.hok.fresh (Nat.le_of_eq hD))
  obtain ⟨s3, h3⟩ : ∃ s3 : Shared, ({ s2 with heap := s2.heap.push { cls := .type "list", data := .seq ([] : List Value).toArray } } : Shared) = s3 := ⟨_, rfl⟩
  obtain ⟨H3, e3⟩ : ∃ H3 : Hp, upd H2 D (.lst []) = H3 := ⟨_, rfl⟩
  have g3 : s3.heap = s2.heap.push { cls := .type "list", data := .seq ([] : List Value).toArray } := by rw [← h3]
  have I3 : Inv X pins σ H3 s3 := by
    subst h3 e3
    refine I2.laid (t' := s2.toks) (fun b o e => Heap.get?_push_of_some _ e) (Nat.le_of_eq hD) ⟨Nat.zero_le _, [], 0, .nil, ?_⟩
    subst hD
    exact Heap.get?_push_size _ rfl
  have up3 : ∀ b o, s2.heap.get? b = some o → s3.heap.get? b = some o := fun b o e => by rw [g3]; exact Heap.get?_push_of_some _ e
  have lt2 : ∀ b ∈ fp, b < s2.heap.objs.size := fun b hb => by
    obtain ⟨o, e, _⟩ := T.obj _ _ st2 b hb
    exact Heap.lt_size e
  have f3 : ∀ b ∈ fp, FpOk X pins H3 b ∧ b < s3.heap.objs.size := fun b hb => by
    refine ⟨⟨?_, (f2 b hb).2⟩, by rw [g3, Heap.size_push]; exact Nat.lt_succ_of_lt (lt2 b hb)⟩
    rw [← e3, upd_ne (by rw [← hD]; exact Nat.ne_of_lt (lt2 b hb))]
    exact (f2 b hb).1
  have st3 : tn 0 s3.heap := T.keep _ _ _ st2 fun b _ o e => up3 b o e
  have B0 := block_start I3 ok hN f3
  have pg := hg s3 H3 s3.heap.objs.size (cellsFrom (s3.heap.objs.size + 1) scope.names (cloFrom X.env.cells scope.names [])) fp
  have pt := ht s3 H3 s3.heap.objs.size (cellsFrom (s3.heap.objs.size + 1) scope.names (cloFrom X.env.cells scope.names [])) fp
  have pv := he s3 H3 s3.heap.objs.size (cellsFrom (s3.heap.objs.size + 1) scope.names (cloFrom X.env.cells scope.names [])) fp
  rw [h3]
  show codeAny _ _ (.compStart (.ListComp elt [⟨tg, iter, ifs, 0⟩] scope pos) 0 (.ref it) (.ref s2.heap.objs.size) (compEnvC scope (cellsFrom (s3.heap.objs.size + 1) scope.names (cloFrom X.env.cells scope.names [])) s3.heap.objs.size X.env)) (compPost (model X.prog X.w) X.A X.xe none (EP X pins σ Q) (.ref s2.heap.objs.size) s3.heap.objs.size) { s3 with heap := pushCells (s3.heap.push { cls := .type "dict", data := .dict #[] }) scope.names }
  rw [hD]
  obtain ⟨ce, hce⟩ : ∃ ce, compEnvC scope (cellsFrom (s3.heap.objs.size + 1) scope.names (cloFrom X.env.cells scope.names [])) s3.heap.objs.size X.env = ce := ⟨_, rfl⟩
  have cL : ce.locals = s3.heap.objs.size := by subst hce; rfl
  rw [hce] at B0 pg pt pv ⊢
  obtain ⟨s4, h4⟩ : ∃ s4 : Shared, ({ s3 with heap := pushCells (s3.heap.push { cls := .type "dict", data := .dict #[] }) scope.names } : Shared) = s4 := ⟨_, rfl⟩
  rw [h4] at B0 ⊢
  have up4 : ∀ b o, s3.heap.get? b = some o → s4.heap.get? b = some o := fun b o e => by rw [← h4]; exact pushCells_keeps _ _ _ _ (Heap.get?_push_of_some _ e)
  have I4 : Inv (blkP X s3 H3 scope ce fp) [] (wipe σ (own.map (·.2))) H3 s4 := blkP_inv B0 fun p hp => by
    obtain ⟨a1, a2, a3, a4, a5⟩ := I3.pin p (List.mem_append_left _ hp)
    refine ⟨up4 _ _ a1, a2, by rw [cL]; exact Nat.ne_of_lt (Heap.lt_size a1), fun z => ?_, a5⟩
    rcases I.ok.stk with k | ⟨k, kf⟩
    · rw [k] at z; exact a4 z
    · rw [k] at z
      obtain ⟨e, he, q⟩ := List.mem_filterMap.mp z
      rcases List.mem_cons.mp he with rfl | he
      · rw [kf] at q; exact a3 (Option.some.inj q).symm
      · exact a4 (List.mem_filterMap.mpr ⟨e, he, q⟩)
  have hcY : L2H.HotC (blkP X s3 H3 scope ce fp) := hc
  have st4 : tn 0 s4.heap := T.keep _ _ _ st3 fun b _ o e => up4 b o e
  have out : ∀ {σ' : L2.St} {H' : Hp} {s' : Shared}, Inv (blkP X s3 H3 scope ce fp) [] σ' H' s' → (∀ b ∈ fp, H' b = none) → ∀ b ∈ fp, FpOk (blkP X s3 H3 scope ce fp) [] H' b := fun {σ' H' s'} Y hn b hb =>
    ⟨hn b hb, (Y.ok.exf b hb).1, Y.ok.exfs b hb, .inl hb, fun x c e => (Y.ok.exf b hb).2 x c e, fun p hp => (f3 b hb).1.2.2.2.2.2 p (by
      rcases List.mem_append.mp hp with hp | hp
      · exact List.mem_append_left _ hp
      · cases hp)⟩
  have nfp : ∀ b ∈ fp, H3 b = none := fun b hb => (f3 b hb).1.1
  rw [e3] at w0
  have loop : codeAny (model X.prog X.w) X.A (.compLoop (.ListComp elt [⟨tg, iter, ifs, 0⟩] scope pos) 0 (.ref it) (.ref D) ce) (compPost (model X.prog X.w) X.A X.xe none (EP X pins σ Q) (.ref D) s3.heap.objs.size) s4 := by
    refine compLoop_any (fun n s' => ∃ i H', Inv (blkP X s3 H3 scope ce fp) [] (wipe σ (own.map (·.2))) H' s' ∧ (tn i s'.heap ∧ W i n H') ∧ ∀ b ∈ fp, H' b = none) (fun n s5 ⟨i, H5, I5, ⟨st5, w5⟩, n5⟩ => ?_) m0 ⟨0, H3, I4, ⟨st4, w0⟩, nfp⟩
    rcases turn i n H5 w5 with ⟨stop, qq⟩ | ⟨go, Nx, hNx, step⟩
    · refine thnF (T.done (blkP X s3 H3 scope ce fp) rfl rfl rfl hcY i [] s5 _ H5 (fun _ _ => False) I5 (out I5 n5) st5 stop) fun r s6 ⟨hr, I6⟩ => ?_
      subst hr
      have I7 : Inv X pins σ H5 s6 := I3.call' (ch := fp) I6.os I6.base I6.hok I6.bare fun b hb => have F := (f3 b hb).1; ⟨F.2.2.2.1, F.2.1, F.2.2.2.2.1, F.2.2.2.2.2⟩
      have nC : H5 s3.heap.objs.size = none := by rw [← cL]; exact I6.free
      obtain ⟨m, hn, _⟩ := I6.loc
      rw [show (blkP X s3 H3 scope ce fp).env.locals = s3.heap.objs.size from cL] at hn
      obtain ⟨f0, f1, _, f4, f5, f6⟩ := I3.fpOk (Nat.le_refl _) nC
      exact ⟨m, hn, fun h'' sb => ⟨.ref D, H5, I7.turned (t' := s6.toks) (fun b o hb e => (sb.2 b hb).trans e) f0 f1 f4 f5 f6, rfl, qq⟩⟩
    · refine thnF (T.item (blkP X s3 H3 scope ce fp) rfl rfl rfl hcY i [] s5 _ H5 (fun _ _ => False) I5 (out I5 n5) st5 go) fun r s6 ⟨u, hr, h6⟩ => ?_
      subst hr
      refine thnF h6 fun _ s7 ⟨x, H7, I7, r7, y7, st7, n7⟩ => ?_
      have P7 := I7.pinned (out I7 n7) (T.obj _ _ st7)
      refine thnF (pg.run _ s7 _ H7 x u _ P7 r7 (step x H7 y7)) fun _ s8 ⟨σ8, H8, I8, hw8, q8⟩ => thnF (pt.run _ s8 σ8 H8 _ I8 q8) fun b s9 ⟨H9, I9, q9⟩ => ?_
      have fin : ∀ {s' : Shared} {H' : Hp}, Inv (blkP X s3 H3 scope ce fp) ([] ++ pinsAt fp s7.heap) σ8 H' s' → Nx H' → ∃ m, m < n ∧ ∃ i H', Inv (blkP X s3 H3 scope ce fp) [] (wipe σ (own.map (·.2))) H' s' ∧ (tn i s'.heap ∧ W i m H') ∧ ∀ b ∈ fp, H' b = none := fun {s' H'} Z nx => by
        obtain ⟨m', hm, w'⟩ := hNx H' nx
        have see : ∀ b ∈ fp, ∀ o, s7.heap.get? b = some o → s'.heap.get? b = some o ∧ H' b = none := fun b hb o e => by
          obtain ⟨z1, z2, _⟩ := Z.pin (b, o) (List.mem_append_right _ (List.mem_append_right _ (mem_pinsAt hb e)))
          exact ⟨z1, z2⟩
        refine ⟨m', hm, i + 1, H', (Z.unpinned (pins := [])).weak (by rw [← hw8, wipe_length]) (fun j v e => by rw [← hw8] at e; exact (wipe_some e).1), ⟨T.keep _ _ _ st7 fun b hb o e => (see b hb o e).1, w'⟩, fun b hb => ?_⟩
        obtain ⟨o, e, _⟩ := T.obj _ _ st7 b hb
        exact (see b hb o e).2
      cases b with
      | false =>
        simp only [Bool.false_eq_true, if_false] at q9 ⊢
        exact fin I9 q9
      | true =>
        simp only [if_true] at q9 ⊢
        exact thnF (pv.run _ s9 σ8 H9 _ I9 q9) fun z s10 ⟨yv, H10, I10, r10, acc, hD10, hz10, nx⟩ => app_ok (X := blkP X s3 H3 scope ce fp) I10 hD10 hz10 r10 fun s11 I11 => fin I11 nx
  exact codeAny_compStart_list loop (T.self X.A 0 _ _ _ st4 loop)

/-! ### exceptions whose context is None: own ones, made by an own __init__ -/
theorem okXN {P : Program} {w : PySem.World} {K : PySem.W.Frag} {mg : Str → Option Value} {base : Heap} {x qual : Str} {st : Stmt} {f : Addr} {fd : FuncData} {N ps : List Str} {k : Nat} {sp : Sp} (F : Fun K x qual st f fd) (S : FnScope N ps (defScope st)) (len : ∀ vs H Q E, sp vs H Q E → vs.length = ps.length)
    (hb : ∀ (cdv : Value) (A : Around) (outer : List Env) (s : Shared) (H : Hp) (vs : List V) (Q : VK) (E : XK), Room k (A.deeper (envOfC qual (defScope st) s.heap.objs.size f cdv)) → sp vs H Q E →
      ∃ t, PSs (cxOf (L2N.CX P w) P w K mg base N qual (defScope st) f cdv A outer s H E) (defBody st) t ∧ t { nx := fun _ H' => Q .non H', rt := Q } (start N vs) H) : FnOk P w K mg base (L2N.CX P w) (k + 1) f fd ps sp := by
  obtain ⟨oc, od, kV, doc, pm, an, cdv, ct, osl, rfl, lk, hcd⟩ := F.ex
  exact fn_of lk hcd S len fun A outer s H vs Q E hr hsp => hb cdv A outer s H vs Q E hr hsp
theorem pmk_oexN {X : Cx} {e : Expr} {es : List Expr} {ta : TA} {p pos : Pos} {CX : CXT} {x : Str} {C fI : Addr} {k : Nat} {fd : FuncData} {ps : List Str} {sp : Sp} (T : OexC X.K C) (i1 : PySem.W.findIn X.K (.ref C) "__init__" = some (some (.ref fI))) (i2 : PySem.W.typeIn X.K (.ref fI) = some (.type "function"))
    (F1 : FnOk X.prog X.w X.K X.mg X.base CX k fI fd ps sp) (hr : Room (k + 1) X.A) (hb : Binds X.K fd ps []) (hd : Vals [] []) (hx : Passes CX X (fun _ _ _ => False)) (hg : Gl X x) (hm : X.mg x = some (.ref C)) (ha : PA X (e :: es) ta)
    (hdb : (x == ("__debug__" : Str)) = false := by decide) (he : starEach (e :: es) X.env = (false, eval e X.env) :: starEach es X.env := by rfl) (hpl : (backTo pos (starEach es X.env)).any (·.1) = false := by rfl) :
    L2N.PMk X (.Call (.Name x p) (e :: es) [] pos) (tMkO C sp [] ta) := by
  intro pins s σ H Q I h
  obtain ⟨nm, q, N, bs, bm, sn, sub, ab, col, dd, k0, k1, k2, k3, k5, hC, hbm⟩ := T.cls
  refine wpAny_Call_Name_kw (ld_glob I hg hm ?_ hdb)
  refine PySem.W.callWith_K (h₀ := X.base) I.ok.mod.kin T.kC (thn (ha.run pos pins s σ H _ I h) fun us s1 ⟨vs, H1, I1, r1, hz, q1⟩ => ⟨I1.kIn, ?_⟩) he hpl
  show wpAny _ _ (call (.ref C) us) _ _ _
  obtain ⟨hp, gg, dr, tk, os⟩ := s1
  have up : hp.objs.size ≤ hp.objs.size + 1 := by omega
  have hq := q1 (hp.objs.size + 1) (I1.hok.fresh up)
  have kk : ∀ b o, hp.get? b = some o → ((hp.push (PySem.W.kdv_tup us)).push (PySem.HandSPX.excO C hp.objs.size)).get? b = some o := fun b o e => Heap.get?_push_of_some _ (Heap.get?_push_of_some _ e)
  have there : ((hp.push (PySem.W.kdv_tup us)).push (PySem.HandSPX.excO C hp.objs.size)).get? (hp.objs.size + 1) = some (PySem.HandSPX.excO C hp.objs.size) := by heap_get
  have I2 : Inv X pins σ (upd H1 (hp.objs.size + 1) (exo (hp.objs.size + 1) C none)) ⟨(hp.push (PySem.W.kdv_tup us)).push (PySem.HandSPX.excO C hp.objs.size), gg, dr, tk, os⟩ := I1.laid (t' := tk) (a := hp.objs.size + 1) (o := exo (hp.objs.size + 1) C none) kk up (exo_ok there)
  rw [List.append_nil] at hq
  have r2 : Vals (V.ref (hp.objs.size + 1) :: vs) (Value.ref (hp.objs.size + 1) :: us) := .cons rfl r1
  have hl : (Value.ref (hp.objs.size + 1) :: us).length = ps.length := by
    rw [← r2.length, F1.len _ _ _ _ hq]
  have hus : us.length ≤ sizeLine := by
    rw [← Paired.length r1, sizeLine_eq]
    omega
  refine wpAny_call (PySem.HandSPX.call_own F.excBase_ValueError (fun Y => PySem.HandSPX.refsVE_contains Y bm hbm) (I1.kIn _ _ hC) (PySem.W.looks_findIn I1.kIn i1) (fun self => PySem.W.bind_fn I1.kIn self i2) hus ?_)
  have hbb := hb _ (Value.ref (hp.objs.size + 1) :: us) I2.kIn (by rw [List.append_nil]; exact hl)
  rw [List.append_nil] at hbb
  refine codeAny_mono (F1.run _ X.stack _ _ ⟨Value.ref (hp.objs.size + 1) :: us, []⟩ (Value.ref (hp.objs.size + 1) :: us) _ _ (fun _ _ _ => False) (hr.make C us []) (I2.env0.make C us []) hbb r2 hq) fun r s' hq' => ?_
  cases r with
  | error er => exact hx pins σ _ _ er s' I2 hq'
  | ok fl =>
    cases fl with
    | next => exact hq'.elim
    | brk => exact hq'.elim
    | cont => exact hq'.elim
    | ret u =>
      obtain ⟨v, H2, os2, bare2, un2, hok2, rv, ev, d, fs, ea, ed, hd1, q2⟩ := hq'
      subst ev
      obtain ⟨h2, g2, d2, t2, os'⟩ := s'
      obtain ⟨t0, G, J, kG, ge, hoe, na⟩ := mk_end0 (d2 := d2) (t2 := t2) I1 up kk un2 hok2 os2 bare2 ea ed hd1
      exact ⟨rv, _, _, _, ⟨G, g2, d2, t2, os'⟩, _, .ref C, some d, rfl, J, kG, ge, hoe, ⟨rfl, rfl, fun vs z => by cases z; rfl⟩, rfl, rfl, na, rfl, bare2, raises_own T.exC T.tyC, q2⟩
section
variable {X : Cx} {aw : Option Addr} {C : Addr} {W : WX}
/-- an expression that may raise -/
def tMXN (K : PySem.W.Frag) (aw : Option Addr) (C : Addr) (W : WX) (m : En → M D) : TE := fun σ H R => ∃ G B ρ Q, Ok K aw G B σ ρ H ∧ m ρ Q ∧ (∀ v H' d, Ext aw H H' → World aw (cut H' B) → Rp K aw (cut H' B) v d → Q d → R v H') ∧
  ∀ H' dx z, Ext aw H H' → World aw (cut H' B) → Wd H' dx z → Q (exD z) → W (.ref C) (some dx) σ H'
abbrev SEXN (X : Cx) (aw : Option Addr) (C : Addr) (W : WX) (e : Expr) (m : En → M D) : Prop := PE X e (tMXN X.K aw C W m)
theorem sexN_of {e : Expr} {m : En → M D} (h : SE X aw e m) : SEXN X aw C W e m := pe_to h fun σ H R => by
  rintro ⟨G, B, ρ, Q, o, hm, q, _⟩
  exact ⟨G, B, ρ, Q, o, hm, q⟩
/-- a def's promise, where it may raise -/
def spXN (K : PySem.W.Frag) (C : Addr) (n : Nat) (F : List D → M D) : Sp := fun vs H Q E => ∃ aw B ds P, vs.length = n ∧ World aw (cut H B) ∧ (∀ p ∈ B, ∃ xs, H p = some (.lst xs)) ∧ RpA K aw (cut H B) vs ds ∧ F ds P ∧
  (∀ v H' d, Ext aw H H' → World aw (cut H' B) → Rp K aw (cut H' B) v d → P d → Q v H') ∧ ∀ H' dx z, Ext aw H H' → World aw (cut H' B) → Wd H' dx z → P (exD z) → E (.ref C) (some dx) H'
structure DxN (P : Program) (w : PySem.World) (K : PySem.W.Frag) (mg : Str → Option Value) (base : Heap) (C : Addr) (x : Str) (n k : Nat) (F : List D → M D) : Prop where
  ex : ∃ f fd ps, ps.length = n ∧ mg x = some (.ref f) ∧ PySem.W.keepIn K (.ref f) = true ∧ Binds K fd ps [] ∧ FnOk P w K mg base (L2N.CX P w) k f fd ps (spXN K C n F)
theorem se_callXN {x : Str} {p pos : Pos} {e : Expr} {es : List Expr} {t : En → M (List D)} {F : List D → M D} {n k j : Nat} (h : DxN X.prog X.w X.K X.mg X.base C x n j F) (hr : Room k X.A) (hjk : j ≤ k) (tk : L2N.Takes X W) (hg : Gl X x) (ha : SA X aw (e :: es) t)
    (hdb : (x == ("__debug__" : Str)) = false := by decide) (he : starEach (e :: es) X.env = (false, eval e X.env) :: starEach es X.env := by rfl) (hpl : (backTo pos (starEach es X.env)).any (·.1) = false := by rfl) : SEXN X aw C W (.Call (.Name x p) (e :: es) [] pos) (eCallN n F t) := by
  obtain ⟨f, fd, ps, h0, h1, h2, h3, h4⟩ := h.ex
  refine pe_to (pe_callS (E := WE W) h4 (hr.mono hjk) hg h1 h2 h3 (fun σ => L2N.passAt tk σ) ha hdb he hpl) fun σ H R => ?_
  rintro ⟨G, B, ρ, Q, o, hm, q, qx⟩
  refine ⟨G, B, ρ, _, o, hm, fun vs H1 ds e1 w1 r1 q1 => ?_⟩
  exact ⟨aw, B, ds, Q, by rw [r1.length]; exact q1.1, w1, (o.grow e1 w1).own, r1, q1.2, fun v H' d e2 w2 r2 q2 => q v H' d (e1.trans e2) w2 r2 q2, fun H' dx z e2 w2 hd q2 => qx H' dx z (e1.trans e2) w2 hd q2⟩
/-- a if c else b, where they may raise -/
theorem sexN_if {c a b : Expr} {pos : Pos} {tt : En → M Bool} {m n : En → M D} (hc : ST X aw c tt) (ha : SEXN X aw C W a m) (hb : SEXN X aw C W b n) : SEXN X aw C W (.IfExp c a b pos) (eIf tt m n) := pe_to (pe_ifExp hc ha hb) fun σ H R => by
  rintro ⟨G, B, ρ, Q, o, hm, k, kx⟩
  refine ⟨G, B, ρ, _, o, hm, fun H1 bb e1 w1 q1 => ?_⟩
  cases bb with
  | true => exact ⟨G, B, ρ, Q, o.grow e1 w1, q1, fun v H' d e w r q => k v H' d (e1.trans e) w r q, fun H' dx z e w hd q => kx H' dx z (e1.trans e) w hd q⟩
  | false => exact ⟨G, B, ρ, Q, o.grow e1 w1, q1, fun v H' d e w r q => k v H' d (e1.trans e) w r q, fun H' dx z e w hd q => kx H' dx z (e1.trans e) w hd q⟩
/-! ### statements -/
def tSXN (K : PySem.W.Frag) (aw : Option Addr) (C : Addr) (W : WX) (s : MS) : TS := fun Dn σ H => ∃ G B ρ P, Ok K aw G B σ ρ H ∧ s ρ P ∧
  (∀ σ' H' ρ' B', Ok K aw G B' σ' ρ' H' → Ext aw (cut H B) (cut H' B') → P.nx ρ' → Dn.nx σ' H') ∧
  (∀ v H' d, Ext aw G.H0 H' → World aw (cut H' G.Bc) → Rp K aw (cut H' G.Bc) v d → P.rt d → Dn.rt v H') ∧
  (∀ σ' H' ρ' B', Ok K aw G B' σ' ρ' H' → Ext aw (cut H B) (cut H' B') → P.bk ρ' → Dn.bk σ' H') ∧
  (∀ σ' H' ρ' B', Ok K aw G B' σ' ρ' H' → Ext aw (cut H B) (cut H' B') → P.ct ρ' → Dn.ct σ' H') ∧
  ∀ σ' H' dx z, Ext aw G.H0 H' → World aw (cut H' G.Bc) → Wd H' dx z → P.rt (exD z) → W (.ref C) (some dx) σ' H'
abbrev SSXN (X : Cx) (aw : Option Addr) (C : Addr) (W : WX) (st : Stmt) (s : MS) : Prop := PS X st (tSXN X.K aw C W s)
abbrev SSsXN (X : Cx) (aw : Option Addr) (C : Addr) (W : WX) (st : List Stmt) (s : MS) : Prop := PSs X st (tSXN X.K aw C W s)
theorem ssxN_of {st : Stmt} {s : MS} (h : SS X aw st s) : SSXN X aw C W st s := ps_to h fun Dn σ H => by
  rintro ⟨G, B, ρ, P, o, hs, k1, k2, k3, k4, _⟩
  exact ⟨G, B, ρ, P, o, hs, k1, k2, k3, k4⟩
theorem ssxN_nil : SSsXN X aw C W [] sNext := pss_to ss_nil fun Dn σ H => by
  rintro ⟨G, B, ρ, P, o, hs, k1, k2, k3, k4, _⟩
  exact ⟨G, B, ρ, P, o, hs, k1, k2, k3, k4⟩
theorem ssxN_cons {st : Stmt} {rest : List Stmt} {s t : MS} (h1 : SSXN X aw C W st s) (h2 : SSsXN X aw C W rest t) : SSsXN X aw C W (st :: rest) (sSeq s t) := pss_to (pss_cons h1 h2) fun Dn σ H => by
  rintro ⟨G, B, ρ, P, o, hs, k1, k2, k3, k4, k5⟩
  refine ⟨G, B, ρ, _, o, hs, fun σ' H' ρ' B' o' e' q' => ?_, k2, k3, k4, k5⟩
  exact ⟨G, B', ρ', P, o', q', fun σ2 H2 ρ2 B2 o2 e2 q2 => k1 σ2 H2 ρ2 B2 o2 (e'.trans e2) q2, k2, fun σ2 H2 ρ2 B2 o2 e2 q2 => k3 σ2 H2 ρ2 B2 o2 (e'.trans e2) q2, fun σ2 H2 ρ2 B2 o2 e2 q2 => k4 σ2 H2 ρ2 B2 o2 (e'.trans e2) q2, k5⟩
theorem ssxN_one {st : Stmt} {s : MS} (h1 : SSXN X aw C W st s) : SSsXN X aw C W [st] s := pss_one h1
theorem ssxN_if {c : Expr} {sts sts2 : List Stmt} {pos : Pos} {tt : En → M Bool} {s t : MS} (hc : ST X aw c tt) (h1 : SSsXN X aw C W sts s) (h2 : SSsXN X aw C W sts2 t) : SSXN X aw C W (.If c sts sts2 pos) (sIf tt s t) := ps_to (ps_if hc h1 h2) fun Dn σ H => by
  rintro ⟨G, B, ρ, P, o, hs, k1, k2, k3, k4, k5⟩
  refine ⟨G, B, ρ, _, o, hs, fun H1 b e1 w1 q1 => ?_⟩
  have ec : Ext aw (cut H B) (cut H1 B) := cut_ext e1
  cases b with
  | true => exact ⟨G, B, ρ, P, o.grow e1 w1, q1, fun σ2 H2 ρ2 B2 o2 e2 q2 => k1 σ2 H2 ρ2 B2 o2 (ec.trans e2) q2, k2, fun σ2 H2 ρ2 B2 o2 e2 q2 => k3 σ2 H2 ρ2 B2 o2 (ec.trans e2) q2, fun σ2 H2 ρ2 B2 o2 e2 q2 => k4 σ2 H2 ρ2 B2 o2 (ec.trans e2) q2, k5⟩
  | false => exact ⟨G, B, ρ, P, o.grow e1 w1, q1, fun σ2 H2 ρ2 B2 o2 e2 q2 => k1 σ2 H2 ρ2 B2 o2 (ec.trans e2) q2, k2, fun σ2 H2 ρ2 B2 o2 e2 q2 => k3 σ2 H2 ρ2 B2 o2 (ec.trans e2) q2, fun σ2 H2 ρ2 B2 o2 e2 q2 => k4 σ2 H2 ρ2 B2 o2 (ec.trans e2) q2, k5⟩
theorem ssxN_ret {e : Expr} {pos : Pos} {m : En → M D} (he : SEXN X aw C W e m) : SSXN X aw C W (.Return (some e) pos) (sRet m) := ps_to (ps_ret he) fun Dn σ H => by
  rintro ⟨G, B, ρ, P, o, hs, k1, k2, k3, k4, k5⟩
  refine ⟨G, B, ρ, _, o, hs, fun v H1 d e1 w1 r1 q1 => ?_, fun H' dx z e1 w1 hd q1 => ?_⟩
  · have o1 := o.grow e1 w1
    obtain ⟨w2, r2⟩ := ret_less o1 r1
    exact k2 v H1 d o1.ext w2 r2 q1
  · have o1 := o.grow e1 w1
    obtain ⟨w2, _⟩ := ret_less o1 .non
    exact k5 σ H' dx z o1.ext w2 hd q1
/-- what the written part says of the class, for raise C('z') -/
structure RaiseAtN (P : Program) (w : PySem.World) (K : PySem.W.Frag) (mg : Str → Option Value) (base : Heap) (x : Str) (C : Addr) : Prop where
  T : OexC K C
  gm : mg x = some (.ref C)
  ini : ∃ fI fd k, PySem.W.findIn K (.ref C) "__init__" = some (some (.ref fI)) ∧ PySem.W.typeIn K (.ref fI) = some (.type "function") ∧ FnOk P w K mg base CX0 k fI fd ["self", "word"] (spInit K C) ∧ Binds K fd ["self", "word"] [] ∧ k ≤ 1
theorem ssxN_raise {x z : Str} {j k : Nat} {p p2 p3 pos : Pos} (hc : X.calm = true) (tk : L2N.Takes X W) (R : RaiseAtN X.prog X.w X.K X.mg X.base x C) (hr : Room (k + 2) X.A) (hg : Gl X x) (hz : z.length ≤ 1000) (hdb : (x == ("__debug__" : Str)) = false := by decide)
    (he : starEach [.Constant (.str z) j p2] X.env = (false, eval (.Constant (.str z) j p2) X.env) :: starEach [] X.env := by rfl) (hpl : (backTo p3 (starEach [] X.env)).any (·.1) = false := by rfl) :
    SSXN X aw C W (.Raise (some (.Call (.Name x p) [.Constant (.str z) j p2] [] p3)) none pos) (sRaise z) := by
  obtain ⟨fI, fd, k0, i1, i2, F1, hb, hk⟩ := R.ini
  have ha : PA X [.Constant (.str z) j p2] (tCons (tC (.str z)) tNil) := pa_cons pe_str pa_nil
  refine ps_to (L2N.ps_raise hc tk (pmk_oexN R.T i1 i2 F1 (hr.mono (by omega)) hb .nil pass0 hg R.gm ha hdb he hpl)) fun Dn σ H => ?_
  rintro ⟨G, B, ρ, P, o, hs, k1, k2, k3, k4, k5⟩
  refine ⟨by show 1 ≤ 1000; decide, fun a hn => ⟨a, z, rfl, R.T, upd_same, hz, fun dx h1 h2 => ?_⟩⟩
  have hd : H dx = none := by rw [upd_ne h2] at h1; exact h1
  refine ⟨rfl, dx, [("word", .str z)], upd_same, by rw [upd_ne h2, upd_same], hd, ?_⟩
  have eq : ∀ b u, H b = some u → (upd (del (upd (upd (upd H a (exo a C none)) dx (exd dx [("word", .str z)])) a (exo a C (some dx))) a) dx (.xd [("word", .str z)])) b = some u := fun b u hb => by
    have n1 : b ≠ dx := ne_of_none hb hd
    have n2 : b ≠ a := ne_of_none hb hn
    rw [upd_ne n1, del_ne n2, upd_ne n2, upd_ne n1, upd_ne n2]
    exact hb
  have e1 : Ext aw H (upd (del (upd (upd (upd H a (exo a C none)) dx (exd dx [("word", .str z)])) a (exo a C (some dx))) a) dx (.xd [("word", .str z)])) := ⟨fun b u _ hb => eq b u hb, fun x _ kvs hx => ⟨kvs, eq _ _ hx⟩⟩
  have w1 : World aw (cut (upd (del (upd (upd (upd H a (exo a C none)) dx (exd dx [("word", .str z)])) a (exo a C (some dx))) a) dx (.xd [("word", .str z)])) B) := o.wld.ext (cut_ext e1) fun y ey => by
    obtain ⟨kvs, hy⟩ := o.wld.ne y ey
    rw [hy]
    obtain ⟨h3, h4⟩ := cut_some hy
    exact cut_of (eq _ _ h3) h4
  have o1 := o.grow e1 w1
  obtain ⟨w2, _⟩ := ret_less o1 .non
  exact k5 _ _ dx z o1.ext w2 upd_same hs
end
/-! ### defs -/
section
variable {P : Program} {w : PySem.World} {K : PySem.W.Frag} {mg : Str → Option Value} {base : Heap} {C : Addr}
theorem dxN_of {x qual : Str} {st : Stmt} {f : Addr} {fd : FuncData} {N ps : List Str} {n k nl : Nat} {s : MS} (F : Fun K x qual st f fd) (S : FnScope N ps (defScope st)) (hn : ps.length = n) (hnl : N.length = nl) (gm : mg x = some (.ref f)) (b : Binds K fd ps [])
    (hb : ∀ (cdv : Value) (A : Around) (outer : List Env) (s0 : Shared) (H : Hp) (E : XK) (aw : Option Addr), Room k (A.deeper (envOfC qual (defScope st) s0.heap.objs.size f cdv)) → L2N.Takes (cxOf (L2N.CX P w) P w K mg base N qual (defScope st) f cdv A outer s0 H E) (fun cls d _ H => E cls d H) →
      SSsXN (cxOf (L2N.CX P w) P w K mg base N qual (defScope st) f cdv A outer s0 H E) aw C (fun cls d _ H => E cls d H) (defBody st) s) :
    DxN P w K mg base C x n (k + 1) (bodyF nl s) := by
  subst hn hnl
  refine ⟨f, fd, ps, rfl, gm, F.kp, b, okXN F S (fun vs H Q E h => ?_) (fun cdv A outer s0 H vs Q E hr h => ?_)⟩
  · obtain ⟨_, _, _, _, h, _⟩ := h
    exact h
  · obtain ⟨aw, B, ds, P', hl, wl, hB, r, hF, q, qx⟩ := h
    refine ⟨_, hb cdv A outer s0 H E aw hr (L2N.takes_of rfl rfl rfl rfl), ⟨H, B⟩, B, env0 N.length ds, _, ok_start wl hB r, hF, fun σ' H' ρ' B' o' e' q' => ?_, fun v H' d e' w' r' q' => q v H' d e' w' r' q', fun _ _ _ _ _ _ z => z.elim, fun _ _ _ _ _ _ z => z.elim, fun σ' H' dx z e' w' hd q' => qx H' dx z e' w' hd q'⟩
    obtain ⟨w2, r2⟩ := ret_less o' (.non)
    exact q .non H' .none o'.ext w2 r2 q'
theorem DxN.df {x : Str} {n k : Nat} {F : List D → M D} (h : DxN P w K mg base C x n k F) : Df P w K mg base x n k (noX F) := by
  obtain ⟨f, fd, ps, h0, h1, h2, h3, h4⟩ := h.ex
  refine ⟨f, fd, ps, h0, h1, h2, h3, ⟨fun vs H Q E q => by obtain ⟨_, _, _, _, q, _⟩ := q; rw [q, h0], fun A outer s H args us vs Q E hr e0 hb r q => ?_⟩⟩
  obtain ⟨aw, B, ds, P', hl, wl, hB, rr, hF, q⟩ := q
  refine codeAny_mono (h4.run A outer s H args us vs Q (fun _ _ _ => False) hr e0 hb r ⟨aw, B, ds, _, hl, wl, hB, rr, hF, fun v H' d e' w' r' q' => q v H' d e' w' r' q'.2, fun H' dx z _ _ _ q' => by have := q'.1; rw [excOf_exD] at this; cases this⟩) fun rs s' z => ?_
  cases rs with
  | ok fl => cases fl <;> exact z
  | error e =>
    obtain ⟨_, _, _, _, _, _, _, _, _, _, _, _, z⟩ := z
    exact z.elim
end


/-! ### one word of a meaning at a time: what is to be shown for it -/
section
variable {s t u : MS} {ρ ρ' : En} {nx bk ct : En → Prop} {rt : D → Prop} {m n : En → M D} {c c' : En → M Bool} {g : MG} {gs : MGs} {b : MS} {d e : D} {ds es r : List D} {Q : D → Prop} {QB : Bool → Prop} {QL : List D → Prop} {QE : En → Prop} {QO : Option Int → Prop}
  {tl : En → M (List D)} {it : En → M (List D)} {F : List D → M D} {f2 : D → D → M D} {f1 : D → M D} {i j l k : Nat} {x y : Int} {bb : Bool} {A B : Prop} {P : Po} {z : Str} {lo hi : En → M (Option Int)}
theorem w_body (h : env0 k ds = ρ) (q : s ρ ⟨fun _ => Q .none, Q, fun _ => False, fun _ => False⟩) : bodyF k s ds Q := by subst h; exact q
theorem w_seq (q : s ρ ⟨fun ρ' => t ρ' ⟨nx, rt, bk, ct⟩, rt, bk, ct⟩) : sSeq s t ρ ⟨nx, rt, bk, ct⟩ := q
theorem w_next (q : nx ρ) : sNext ρ ⟨nx, rt, bk, ct⟩ := q
theorem w_break (q : bk ρ) : sBreak ρ ⟨nx, rt, bk, ct⟩ := q
theorem w_pnx (q : nx ρ) : Po.nx ⟨nx, rt, bk, ct⟩ ρ := q
theorem w_pbk (q : bk ρ) : Po.bk ⟨nx, rt, bk, ct⟩ ρ := q
theorem w_pct (q : ct ρ) : Po.ct ⟨nx, rt, bk, ct⟩ ρ := q
theorem w_prt (q : rt d) : Po.rt ⟨nx, rt, bk, ct⟩ d := q
theorem w_ret (q : m ρ rt) : sRet m ρ ⟨nx, rt, bk, ct⟩ := q
theorem w_asg (q : m ρ fun d => g d ρ nx) : sAsg m g ρ ⟨nx, rt, bk, ct⟩ := q
theorem w_if (q : c ρ fun b => if b = true then s ρ P else t ρ P) : sIf c s t ρ P := q
theorem w_par (h : (ρ.set i (.va d)).set j (.va e) = ρ') (q : nx ρ') : (match [d, e] with | [a, b] => nx ((ρ.set i (.va a)).set j (.va b)) | _ => False) := by subst h; exact q
def kPar (i j : Nat) (ρ : En) (nx : En → Prop) : List D → Prop
  | [a, b] => nx ((ρ.set i (.va a)).set j (.va b))
  | _ => False
theorem w_sPar (q : tl ρ (kPar i j ρ nx)) : sPar i j tl ρ ⟨nx, rt, bk, ct⟩ := by
  unfold sPar
  refine cast ?_ q
  congr 1
theorem w_kPar (h : (ρ.set i (.va d)).set j (.va e) = ρ') (q : nx ρ') : kPar i j ρ nx [d, e] := by subst h; exact q
def kPar3 (i j l : Nat) (ρ : En) (nx : En → Prop) : List D → Prop
  | [a, b, c] => nx (((ρ.set i (.va a)).set j (.va b)).set l (.va c))
  | _ => False
theorem w_sPar3 (q : tl ρ (kPar3 i j l ρ nx)) : sPar3 i j l tl ρ ⟨nx, rt, bk, ct⟩ := by
  unfold sPar3
  refine cast ?_ q
  congr 1
theorem w_kPar3 {d3 : D} (h : ((ρ.set i (.va d)).set j (.va e)).set l (.va d3) = ρ') (q : nx ρ') : kPar3 i j l ρ nx [d, e, d3] := by subst h; exact q
theorem w_for (q : it ρ fun ds => forW g b ds ρ P) : sFor it g b ρ P := q
theorem w_forC (q : g d ρ fun ρ1 => b ρ1 ⟨fun ρ2 => forW g b ds ρ2 ⟨nx, rt, bk, ct⟩, rt, nx, fun ρ2 => forW g b ds ρ2 ⟨nx, rt, bk, ct⟩⟩) : forW g b (d :: ds) ρ ⟨nx, rt, bk, ct⟩ := q
theorem w_forN (q : nx ρ) : forW g b [] ρ ⟨nx, rt, bk, ct⟩ := q
theorem w_own (q : tl ρ fun ds => ds.length ≤ 100000 ∧ nx (ρ.set i (.ow ds))) : sOwn i tl ρ ⟨nx, rt, bk, ct⟩ := q
theorem w_nxset (h : ρ.set i v = ρ') (q : QE ρ') : QE (ρ.set i v) := by subst h; exact q
theorem w_env {ρ0 : En} (h : ρ0 = ρ') (q : QE ρ') : QE ρ0 := by subst h; exact q
theorem w_freeze (h : ρ[i]? = some (.ow ds)) (h2 : ρ.set i (.va (.list ds)) = ρ') (q : s ρ' P) : sFreeze i s ρ P := by
  unfold sFreeze; rw [h]; subst h2; exact q
def kApp (i : Nat) (ds : List D) (ρ : En) (nx : En → Prop) : List D → Prop
  | [d] => ds.length < 100000 ∧ nx (ρ.set i (.ow (ds ++ [d])))
  | _ => False
theorem w_app (h : ρ[i]? = some (.ow ds)) (q : tl ρ (kApp i ds ρ nx)) : sApp i tl ρ ⟨nx, rt, bk, ct⟩ := by
  unfold sApp; rw [h]
  refine cast ?_ q
  congr 1
theorem w_kApp (hl : ds.length < 100000) (h : ρ.set i (.ow (ds ++ [d])) = ρ') (q : nx ρ') : kApp i ds ρ nx [d] := by subst h; exact ⟨hl, q⟩
def kIns (i : Nat) (ds : List D) (ρ : En) (nx : En → Prop) : List D → Prop
  | [.int n, d] => ds.length < 100000 ∧ 0 ≤ n ∧ n ≤ 100000 ∧ nx (ρ.set i (.ow (ds.take n.toNat ++ [d] ++ ds.drop n.toNat)))
  | _ => False
theorem w_ins (h : ρ[i]? = some (.ow ds)) (q : tl ρ (kIns i ds ρ nx)) : sIns i tl ρ ⟨nx, rt, bk, ct⟩ := by
  unfold sIns; rw [h]
  refine cast ?_ q
  congr 1
theorem w_aug (h : ρ[i]? = some (.va d)) (q : m ρ fun y => f2 d y fun z => nx (ρ.set i (.va z))) : sAug i f2 m ρ ⟨nx, rt, bk, ct⟩ := by
  unfold sAug; rw [h]; exact q
theorem w_itO (h : ρ[i]? = some (.ow ds)) (q : QL ds) : itO i ρ QL := by unfold itO; rw [h]; exact q
theorem w_var (h : ρ[i]? = some (.va d)) (q : Q d) : eVar i ρ Q := by unfold eVar; rw [h]; exact q
theorem w_c (q : Q d) : eC d ρ Q := q
theorem w_op (q : m ρ fun x => n ρ fun y => f2 x y Q) : eOp f2 m n ρ Q := q
theorem w_un (q : m ρ fun x => f1 x Q) : eUn f1 m ρ Q := q
def kT (Q : Bool → Prop) : D → Prop
  | .bool b => Q b
  | _ => False
theorem w_t (q : m ρ (kT QB)) : eT m ρ QB := q
theorem w_kT (q : QB bb) : kT QB (.bool bb) := q
theorem w_mAnd (q : c ρ fun b => if b = true then c' ρ QB else QB false) : mAnd c c' ρ QB := q
theorem w_mOr (q : c ρ fun b => if b = true then QB true else c' ρ QB) : mOr c c' ρ QB := q
theorem w_mNot (q : c ρ fun b => QB (!b)) : mNot c ρ QB := q
theorem w_yes (q : QB true) : mYes ρ QB := q
def kAnd (n : En → M D) (ρ : En) (Q : D → Prop) : D → Prop
  | .bool b => if b = true then n ρ Q else Q (.bool false)
  | _ => False
theorem w_eAnd (q : m ρ (kAnd n ρ Q)) : eAnd m n ρ Q := q
theorem w_kAnd (q : if bb = true then n ρ Q else Q (.bool false)) : kAnd n ρ Q (.bool bb) := q
def kOr (n : En → M D) (ρ : En) (Q : D → Prop) : D → Prop
  | .bool b => if b = true then Q (.bool true) else n ρ Q
  | _ => False
theorem w_eOr (q : m ρ (kOr n ρ Q)) : eOr m n ρ Q := q
theorem w_kOr (q : if bb = true then Q (.bool true) else n ρ Q) : kOr n ρ Q (.bool bb) := q
def kNot (Q : D → Prop) : D → Prop
  | .bool b => Q (.bool (!b))
  | _ => False
theorem w_eNot (q : m ρ (kNot Q)) : eNot m ρ Q := q
theorem w_kNot (q : Q (.bool (!bb))) : kNot Q (.bool bb) := q
theorem w_eIf (q : c ρ fun b => if b = true then m ρ Q else n ρ Q) : eIf c m n ρ Q := q
theorem w_nil (q : QL []) : aNil ρ QL := q
theorem w_cons (q : m ρ fun d => tl ρ fun ds => QL (d :: ds)) : aCons m tl ρ QL := q
theorem w_tup (q : tl ρ fun ds => ds.length ≤ 100000 ∧ Q (.tuple ds)) : eTup tl ρ Q := q
theorem w_lst (q : tl ρ fun ds => ds.length ≤ 100000 ∧ Q (.list ds)) : eLst tl ρ Q := q
theorem w_call (q : tl ρ fun ds => F ds Q) : eCall F tl ρ Q := q
theorem w_callN (q : tl ρ fun ds => ds.length = k ∧ F ds Q) : eCallN k F tl ρ Q := q
theorem w_mgName (h : ρ.set i (.va d) = ρ') (q : QE ρ') : mgName i d ρ QE := by subst h; exact q
theorem w_mgTup (h : ds.length = k) (q : gs ds ρ QE) : mgTup k gs (.tuple ds) ρ QE := ⟨h, q⟩
theorem w_mgLst (h : ds.length = k) (q : gs ds ρ QE) : mgLst k gs (.list ds) ρ QE := ⟨h, q⟩
theorem w_mgCons (q : g d ρ fun ρ' => gs r ρ' QE) : mgCons g gs (d :: r) ρ QE := q
theorem w_mgNil (q : QE ρ) : mgNil [] ρ QE := ⟨rfl, q⟩
def kItL (Q : List D → Prop) : D → Prop
  | .list ds => Q ds
  | _ => False
theorem w_itL (q : m ρ (kItL QL)) : itL m ρ QL := q
theorem w_kItL (q : QL ds) : kItL QL (.list ds) := q
def kItT (Q : List D → Prop) : D → Prop
  | .tuple ds => Q ds
  | _ => False
theorem w_itT (q : m ρ (kItT QL)) : itT m ρ QL := q
theorem w_kItT (q : QL ds) : kItT QL (.tuple ds) := q
def kR1 (Q : List D → Prop) : List D → Prop
  | [.int b] => b ≤ 100000 ∧ -100000 ≤ b ∧ Q (rngD 0 b.toNat)
  | _ => False
theorem w_itR1 (q : tl ρ (kR1 QL)) : itR1 tl ρ QL := by
  unfold itR1
  refine cast ?_ q
  congr 1
theorem w_kR1 (h1 : x ≤ 100000) (h2 : -100000 ≤ x) (q : QL (rngD 0 x.toNat)) : kR1 QL [.int x] := ⟨h1, h2, q⟩
theorem w_lc (q : it ρ fun ds => ds.length < 100000 ∧ lcW g c m (wipeE ρ is) ds [] fun out => Q (.list out)) : eLc it is g c m ρ Q := q
theorem w_lcC (q : g d ρ fun ρ1 => c ρ1 fun b => if b = true then m ρ1 fun y => lcW g c m ρ ds (es ++ [y]) QL else lcW g c m ρ ds es QL) : lcW g c m ρ (d :: ds) es QL := q
theorem w_lcN (q : QL es) : lcW g c m ρ [] es QL := q
theorem w_lcN' (h : es = ds) (q : QL ds) : lcW g c m ρ [] es QL := by subst h; exact q
theorem w_all {bs : List Bool} {b0 : Bool} (h : boolsOf ds = some bs) (h2 : bs.all id = b0) (q : Q (.bool b0)) : fAll [.list ds] Q := by
  show (match boolsOf ds with | some bs => Q (.bool (bs.all id)) | none => False)
  rw [h]; subst h2; exact q
theorem w_oNone (q : QO none) : oNone ρ QO := q
def kO (Q : Option Int → Prop) : D → Prop
  | .int i => Q (some i)
  | _ => False
theorem w_oSome (q : m ρ (kO QO)) : oSome m ρ QO := q
theorem w_kO (q : QO (some x)) : kO QO (.int x) := q
theorem w_eSl (q : m ρ fun d => lo ρ fun l => hi ρ fun h => fSl d l h Q) : eSl m lo hi ρ Q := q
theorem w_fSlS {l h : Option Int} (hz : z.length ≤ 100000) (q : Q (.str (cutS z l h))) : fSl (.str z) l h Q := ⟨hz, q⟩
theorem w_fSlL {l h : Option Int} (q : Q (.list (cutD ds l h))) : fSl (.list ds) l h Q := q
theorem w_fSlT {l h : Option Int} (q : Q (.tuple (cutD ds l h))) : fSl (.tuple ds) l h Q := q
theorem w_add (q : Q (.int (x + y))) : fAdd (.int x) (.int y) Q := ⟨trivial, q⟩
theorem w_sub (q : Q (.int (x - y))) : fSub (.int x) (.int y) Q := ⟨trivial, q⟩
theorem w_mul (h : CMulW x y) (q : Q (.int (x * y))) : fMul (.int x) (.int y) Q := ⟨h, q⟩
theorem w_div (h : CDv x y) (q : Q (.int (x.fdiv y))) : fDiv (.int x) (.int y) Q := ⟨h, q⟩
theorem w_mod (h : y ≠ 0) (q : Q (.int (x.fmod y))) : fMod (.int x) (.int y) Q := ⟨h, q⟩
theorem w_pow (h : CPow x y) (q : Q (.int (x ^ y.toNat))) : fPow (.int x) (.int y) Q := ⟨h, q⟩
theorem w_lt (q : Q (.bool (decide (x < y)))) : fLt (.int x) (.int y) Q := ⟨trivial, q⟩
theorem w_le (q : Q (.bool (decide (x ≤ y)))) : fLe (.int x) (.int y) Q := ⟨trivial, q⟩
theorem w_gt (q : Q (.bool (decide (y < x)))) : fGt (.int x) (.int y) Q := ⟨trivial, q⟩
theorem w_ge (q : Q (.bool (decide (y ≤ x)))) : fGe (.int x) (.int y) Q := ⟨trivial, q⟩
theorem w_eq (h1 : okD d) (h2 : okD e) (q : Q (.bool (PyData.eqv d e))) : fEq d e Q := ⟨h1, h2, q⟩
theorem w_ne (h1 : okD d) (h2 : okD e) (q : Q (.bool (!PyData.eqv d e))) : fNe d e Q := ⟨h1, h2, q⟩
theorem w_ixT (h : atI ds x = some d) (q : Q d) : fIx (.tuple ds) (.int x) Q := by
  show (match atI ds x with | some d => Q d | none => False)
  rw [h]; exact q
theorem w_ixL (h : atI ds x = some d) (q : Q d) : fIx (.list ds) (.int x) Q := by
  show (match atI ds x with | some d => Q d | none => False)
  rw [h]; exact q
theorem w_neg (q : Q (.int (-x))) : fNeg (.int x) Q := q
theorem w_subB {b2 : Bool} (q : Q (.int ((if bb = true then 1 else 0) - (if b2 = true then 1 else 0)))) : fSubB (.bool bb) (.bool b2) Q := q
theorem w_lenL (q : Q (.int ds.length)) : fLen [.list ds] Q := q
theorem w_lenT (q : Q (.int ds.length)) : fLen [.tuple ds] Q := q
theorem w_lenLn (h : ((ds.length : Nat) : Int) = x) (q : Q (.int x)) : fLen [.list ds] Q := by subst h; exact q
theorem w_lenTn (h : ((ds.length : Nat) : Int) = x) (q : Q (.int x)) : fLen [.tuple ds] Q := by subst h; exact q
theorem w_lenS (h : z.length ≤ 100000) (q : Q (.int z.length)) : fLen [.str z] Q := ⟨h, q⟩
theorem w_abs (q : Q (.int (if x < 0 then -x else x))) : fAbs [.int x] Q := q
theorem w_intc (q : Q (.int x)) : fInt [.int x] Q := q
theorem w_tupL (q : Q (.tuple ds)) : fTuple [.list ds] Q := q
theorem w_tupT (q : Q (.tuple ds)) : fTuple [.tuple ds] Q := q
theorem w_lisL (q : Q (.list ds)) : fList [.list ds] Q := q
theorem w_lisT (q : Q (.list ds)) : fList [.tuple ds] Q := q
theorem w_isNn (q : Q (.bool true)) : fIsN .none .none Q := ⟨rfl, q⟩
theorem w_isNt (q : Q (.bool false)) : fIsN (.tuple ds) .none Q := ⟨rfl, q⟩
theorem w_isNi (q : Q (.bool false)) : fIsN (.int x) .none Q := ⟨rfl, q⟩
theorem w_notNn (q : Q (.bool false)) : fNotN .none .none Q := ⟨rfl, q⟩
theorem w_notNt (q : Q (.bool true)) : fNotN (.tuple ds) .none Q := ⟨rfl, q⟩
theorem w_notNi (q : Q (.bool true)) : fNotN (.int x) .none Q := ⟨rfl, q⟩
theorem w_isB {b2 : Bool} (q : Q (.bool (decide (bb = b2)))) : fIsB (.bool bb) (.bool b2) Q := q
theorem w_notB {b2 : Bool} (q : Q (.bool (!decide (bb = b2)))) : fNotB (.bool bb) (.bool b2) Q := q
theorem w_catL (h : ds.length + es.length ≤ 100000) (q : Q (.list (ds ++ es))) : fCatL (.list ds) (.list es) Q := ⟨h, q⟩
theorem w_catS {z2 : Str} (h : z.length + z2.length ≤ 100000) (q : Q (.str (z ++ z2))) : fCatS (.str z) (.str z2) Q := ⟨h, q⟩
theorem w_isi {T a : String} (h : tyD d = some a) (q : Q (.bool (isD a T))) : fIsi T d Q := by
  unfold fIsi; rw [h]; exact q
theorem w_iteT (h : bb = true) (q : A) : if bb = true then A else B := by rw [if_pos h]; exact q
theorem w_iteF (h : bb = false) (q : B) : if bb = true then A else B := by rw [if_neg (by rw [h]; decide)]; exact q
theorem w_and (h : A) (q : B) : A ∧ B := ⟨h, q⟩
end


/-! ### one step, found by its word -/
class Stp (A : Prop) (B : outParam Prop) : Prop where
  h : B → A
class SetR (ρ : En) (i : Nat) (s : Sl) (ρ' : outParam En) : Prop where
  e : ρ.set i s = ρ'
class LkR (ρ : En) (i : Nat) (s : outParam Sl) : Prop where
  e : ρ[i]? = some s
class WipR (ρ : En) (is : List Nat) (ρ' : outParam En) : Prop where
  e : wipeE ρ is = ρ'
class EnvR (k : Nat) (ds : List D) (ρ : outParam En) : Prop where
  e : env0 k ds = ρ
class AppR {α : Type} (xs : List α) (y : α) (zs : outParam (List α)) : Prop where
  e : xs ++ [y] = zs
class ListR {α : Type} (xs : List α) (zs : outParam (List α)) : Prop where
  e : xs = zs
class Shrt {α : Type} (xs : List α) (n : Nat) : Prop where
  e : xs.length ≤ n
class LnR {α : Type} (xs : List α) (n : Nat) : Prop where
  e : xs.length = n
class AtR (xs : List D) (i : Int) (d : outParam D) : Prop where
  e : atI xs i = some d
class AllR (xs : List D) (b : outParam Bool) : Prop where
  e : ∃ bs, boolsOf xs = some bs ∧ bs.all id = b
class IsiR (T : String) (d : D) (b : outParam Bool) : Prop where
  e : ∃ a, tyD d = some a ∧ isD a T = b
section
variable {a : Sl} {ρ ρ' ρ1 : En} {i : Nat} {s : Sl} {is : List Nat} {k n : Nat} {d : D} {ds : List D}
instance : SetR (a :: ρ) 0 s (s :: ρ) := ⟨rfl⟩
instance [h : SetR ρ i s ρ'] : SetR (a :: ρ) (i + 1) s (a :: ρ') := ⟨by rw [List.set_cons_succ, h.e]⟩
instance : LkR (a :: ρ) 0 a := ⟨rfl⟩
instance [h : LkR ρ i s] : LkR (a :: ρ) (i + 1) s := ⟨by rw [List.getElem?_cons_succ, h.e]⟩
instance : WipR ρ [] ρ := ⟨rfl⟩
instance [h : WipR ρ is ρ1] [h2 : SetR ρ1 i .no ρ'] : WipR ρ (i :: is) ρ' := ⟨by show (wipeE ρ is).set i .no = ρ'; rw [h.e, h2.e]⟩
instance : EnvR 0 [] [] := ⟨rfl⟩
instance [h : EnvR k [] ρ] : EnvR (k + 1) [] (.no :: ρ) := ⟨by
  have e := h.e
  unfold env0 at *
  simp only [List.map_nil, List.nil_append, List.length_nil, Nat.sub_zero, List.replicate_succ] at *
  rw [e]⟩
instance [h : EnvR k ds ρ] : EnvR (k + 1) (d :: ds) (.va d :: ρ) := ⟨by
  have e := h.e
  unfold env0 at *
  simp only [List.map_cons, List.cons_append, List.length_cons, Nat.add_sub_add_right] at *
  rw [e]⟩
end
section
variable {α : Type} {x y : α} {xs ys zs : List α} {n : Nat}
instance : AppR ([] : List α) y [y] := ⟨rfl⟩
instance [h : AppR xs y zs] : AppR (x :: xs) y (x :: zs) := ⟨by rw [List.cons_append, h.e]⟩
instance : ListR ([] : List α) [] := ⟨rfl⟩
instance [h : ListR xs ys] [h2 : AppR ys y zs] : ListR (xs ++ [y]) zs := ⟨by rw [h.e, h2.e]⟩
instance : Shrt ([] : List α) n := ⟨Nat.zero_le _⟩
instance [h : Shrt xs n] : Shrt (x :: xs) (n + 1) := ⟨Nat.succ_le_succ h.e⟩
instance : LnR ([] : List α) 0 := ⟨rfl⟩
instance [h : LnR xs n] : LnR (x :: xs) (n + 1) := ⟨congrArg (· + 1) h.e⟩
end
section
variable {a b c d e f g h i j : D} {ds : List D} {bb : Bool}
instance : AtR (a :: ds) 0 a := ⟨by
  have e : ixN (a :: ds).length 0 = some 0 := by
    unfold ixN
    rw [if_pos (by omega), if_pos (by simp)]
    rfl
  unfold atI
  rw [e]
  rfl⟩
theorem at_suc {n : Nat} {xs : List D} {d : D} (h : atI xs (n : Int) = some d) : atI (a :: xs) ((n : Int) + 1) = some d := by
  unfold atI ixN at *
  rw [if_pos (by omega)] at *
  by_cases z : (n : Int).toNat < xs.length
  · rw [if_pos (by omega)] at h
    rw [if_pos (by rw [List.length_cons]; omega)]
    rw [show ((n : Int) + 1).toNat = (n : Int).toNat + 1 by omega]
    exact h
  · rw [if_neg (by omega)] at h
    cases h
instance [h : AtR ds 0 d] : AtR (a :: ds) 1 d := ⟨at_suc (n := 0) h.e⟩
instance [h : AtR ds 1 d] : AtR (a :: ds) 2 d := ⟨at_suc (n := 1) h.e⟩
instance [h : AtR ds 2 d] : AtR (a :: ds) 3 d := ⟨at_suc (n := 2) h.e⟩
instance [h : AtR ds 3 d] : AtR (a :: ds) 4 d := ⟨at_suc (n := 3) h.e⟩
instance [h : AtR ds 4 d] : AtR (a :: ds) 5 d := ⟨at_suc (n := 4) h.e⟩
instance [h : AtR ds 5 d] : AtR (a :: ds) 6 d := ⟨at_suc (n := 5) h.e⟩
instance [h : AtR ds 6 d] : AtR (a :: ds) 7 d := ⟨at_suc (n := 6) h.e⟩
instance [h : AtR ds 7 d] : AtR (a :: ds) 8 d := ⟨at_suc (n := 7) h.e⟩
instance [h : AtR ds 8 d] : AtR (a :: ds) 9 d := ⟨at_suc (n := 8) h.e⟩
instance : AllR [] true := ⟨[], rfl, rfl⟩
instance [h : AllR ds bb] : AllR (.bool true :: ds) bb := ⟨by
  obtain ⟨bs, e, q⟩ := h.e
  exact ⟨true :: bs, by unfold boolsOf; rw [e]; rfl, by rw [List.all_cons, q]; rfl⟩⟩
instance [h : AllR ds bb] : AllR (.bool false :: ds) false := ⟨by
  obtain ⟨bs, e, q⟩ := h.e
  exact ⟨false :: bs, by unfold boolsOf; rw [e]; rfl, by rw [List.all_cons]; rfl⟩⟩
end
section
variable {x : Int} {b : Bool} {z : Str} {ds : List D}
instance : IsiR "int" .none false := ⟨_, rfl, by decide⟩
instance : IsiR "int" (.bool b) true := ⟨_, rfl, by decide⟩
instance : IsiR "int" (.int x) true := ⟨_, rfl, by decide⟩
instance : IsiR "int" (.str z) false := ⟨_, rfl, by decide⟩
instance : IsiR "int" (.list ds) false := ⟨_, rfl, by decide⟩
instance : IsiR "int" (.tuple ds) false := ⟨_, rfl, by decide⟩
instance : IsiR "bool" .none false := ⟨_, rfl, by decide⟩
instance : IsiR "bool" (.bool b) true := ⟨_, rfl, by decide⟩
instance : IsiR "bool" (.int x) false := ⟨_, rfl, by decide⟩
instance : IsiR "bool" (.str z) false := ⟨_, rfl, by decide⟩
instance : IsiR "bool" (.list ds) false := ⟨_, rfl, by decide⟩
instance : IsiR "bool" (.tuple ds) false := ⟨_, rfl, by decide⟩
instance : IsiR "str" .none false := ⟨_, rfl, by decide⟩
instance : IsiR "str" (.bool b) false := ⟨_, rfl, by decide⟩
instance : IsiR "str" (.int x) false := ⟨_, rfl, by decide⟩
instance : IsiR "str" (.str z) true := ⟨_, rfl, by decide⟩
instance : IsiR "str" (.list ds) false := ⟨_, rfl, by decide⟩
instance : IsiR "str" (.tuple ds) false := ⟨_, rfl, by decide⟩
instance : IsiR "tuple" .none false := ⟨_, rfl, by decide⟩
instance : IsiR "tuple" (.bool b) false := ⟨_, rfl, by decide⟩
instance : IsiR "tuple" (.int x) false := ⟨_, rfl, by decide⟩
instance : IsiR "tuple" (.str z) false := ⟨_, rfl, by decide⟩
instance : IsiR "tuple" (.list ds) false := ⟨_, rfl, by decide⟩
instance : IsiR "tuple" (.tuple ds) true := ⟨_, rfl, by decide⟩
instance : IsiR "list" .none false := ⟨_, rfl, by decide⟩
instance : IsiR "list" (.bool b) false := ⟨_, rfl, by decide⟩
instance : IsiR "list" (.int x) false := ⟨_, rfl, by decide⟩
instance : IsiR "list" (.str z) false := ⟨_, rfl, by decide⟩
instance : IsiR "list" (.list ds) true := ⟨_, rfl, by decide⟩
instance : IsiR "list" (.tuple ds) false := ⟨_, rfl, by decide⟩
instance : IsiR "dict" .none false := ⟨_, rfl, by decide⟩
instance : IsiR "dict" (.bool b) false := ⟨_, rfl, by decide⟩
instance : IsiR "dict" (.int x) false := ⟨_, rfl, by decide⟩
instance : IsiR "dict" (.str z) false := ⟨_, rfl, by decide⟩
instance : IsiR "dict" (.list ds) false := ⟨_, rfl, by decide⟩
instance : IsiR "dict" (.tuple ds) false := ⟨_, rfl, by decide⟩
end
section
variable {s t u : MS} {ρ ρ' ρ1 ρ2 ρ3 : En} {nx bk ct : En → Prop} {rt : D → Prop} {m n : En → M D} {c c' : En → M Bool} {g : MG} {gs : MGs} {b : MS} {d e d3 : D} {ds es r : List D} {Q : D → Prop} {QB : Bool → Prop} {QL : List D → Prop} {QE : En → Prop} {QO : Option Int → Prop}
  {tl : En → M (List D)} {it : En → M (List D)} {F : List D → M D} {f2 : D → D → M D} {f1 : D → M D} {i j l k : Nat} {is : List Nat} {x y : Int} {bb b2 : Bool} {A B : Prop} {P : Po} {z z2 : Str} {lo hi : En → M (Option Int)} {lo1 hi1 : Option Int} {T : String}
def kOwn (i : Nat) (ρ : En) (nx : En → Prop) (ds : List D) : Prop := ds.length ≤ 100000 ∧ nx (ρ.set i (.ow ds))
theorem w_kOwn (hl : ds.length ≤ 100000) (h : ρ.set i (.ow ds) = ρ') (q : nx ρ') : kOwn i ρ nx ds := ⟨hl, by rw [h]; exact q⟩
def kAug (i : Nat) (ρ : En) (nx : En → Prop) (d : D) : Prop := nx (ρ.set i (.va d))
instance [h : EnvR k ds ρ] : Stp (bodyF k s ds Q) (s ρ ⟨fun _ => Q .none, Q, fun _ => False, fun _ => False⟩) := ⟨fun q => w_body h.e q⟩
instance : Stp (sSeq s t ρ ⟨nx, rt, bk, ct⟩) (s ρ ⟨fun ρ2 => t ρ2 ⟨nx, rt, bk, ct⟩, rt, bk, ct⟩) := ⟨w_seq⟩
instance : Stp (sNext ρ ⟨nx, rt, bk, ct⟩) (nx ρ) := ⟨w_next⟩
instance : Stp (sBreak ρ ⟨nx, rt, bk, ct⟩) (bk ρ) := ⟨w_break⟩
instance : Stp (sCont ρ ⟨nx, rt, bk, ct⟩) (ct ρ) := ⟨fun q => q⟩
instance : Stp (sRet m ρ ⟨nx, rt, bk, ct⟩) (m ρ rt) := ⟨w_ret⟩
instance : Stp (sAsg m g ρ ⟨nx, rt, bk, ct⟩) (m ρ fun d => g d ρ nx) := ⟨w_asg⟩
instance : Stp (sIf c s t ρ P) (c ρ fun b => if b = true then s ρ P else t ρ P) := ⟨w_if⟩
instance : Stp (sPar i j tl ρ ⟨nx, rt, bk, ct⟩) (tl ρ (kPar i j ρ nx)) := ⟨w_sPar⟩
instance [h : SetR ρ i (.va d) ρ1] [h2 : SetR ρ1 j (.va e) ρ2] : Stp (kPar i j ρ nx [d, e]) (nx ρ2) := ⟨fun q => w_kPar (by rw [h.e, h2.e]) q⟩
instance : Stp (sPar3 i j l tl ρ ⟨nx, rt, bk, ct⟩) (tl ρ (kPar3 i j l ρ nx)) := ⟨w_sPar3⟩
instance [h : SetR ρ i (.va d) ρ1] [h2 : SetR ρ1 j (.va e) ρ2] [h3 : SetR ρ2 l (.va d3) ρ3] : Stp (kPar3 i j l ρ nx [d, e, d3]) (nx ρ3) := ⟨fun q => w_kPar3 (by rw [h.e, h2.e, h3.e]) q⟩
instance : Stp (sFor it g b ρ P) (it ρ fun ds => forW g b ds ρ P) := ⟨w_for⟩
instance : Stp (forW g b (d :: ds) ρ ⟨nx, rt, bk, ct⟩) (g d ρ fun ρ1 => b ρ1 ⟨fun ρ2 => forW g b ds ρ2 ⟨nx, rt, bk, ct⟩, rt, nx, fun ρ2 => forW g b ds ρ2 ⟨nx, rt, bk, ct⟩⟩) := ⟨w_forC⟩
instance : Stp (forW g b [] ρ ⟨nx, rt, bk, ct⟩) (nx ρ) := ⟨w_forN⟩
instance : Stp (sOwn i tl ρ ⟨nx, rt, bk, ct⟩) (tl ρ (kOwn i ρ nx)) := ⟨w_own⟩
instance [hl : Shrt ds 100000] [h : SetR ρ i (.ow ds) ρ1] : Stp (kOwn i ρ nx ds) (nx ρ1) := ⟨fun q => w_kOwn hl.e h.e q⟩
instance [h : LkR ρ i (.ow ds)] [h2 : SetR ρ i (.va (.list ds)) ρ1] : Stp (sFreeze i s ρ P) (s ρ1 P) := ⟨fun q => w_freeze h.e h2.e q⟩
instance [h : LkR ρ i (.ow ds)] : Stp (sApp i tl ρ ⟨nx, rt, bk, ct⟩) (tl ρ (kApp i ds ρ nx)) := ⟨w_app h.e⟩
instance [hl : Shrt ds 99999] [h0 : AppR ds d es] [h : SetR ρ i (.ow es) ρ1] : Stp (kApp i ds ρ nx [d]) (nx ρ1) := ⟨fun q => w_kApp (Nat.lt_succ_of_le hl.e) (by rw [h0.e, h.e]) q⟩
instance [h : LkR ρ i (.ow ds)] : Stp (sIns i tl ρ ⟨nx, rt, bk, ct⟩) (tl ρ (kIns i ds ρ nx)) := ⟨w_ins h.e⟩
instance [h : LkR ρ i (.va d)] : Stp (sAug i f2 m ρ ⟨nx, rt, bk, ct⟩) (m ρ fun y => f2 d y (kAug i ρ nx)) := ⟨fun q => w_aug h.e q⟩
instance [h : SetR ρ i (.va d) ρ1] : Stp (kAug i ρ nx d) (nx ρ1) := ⟨fun q => by unfold kAug; rw [h.e]; exact q⟩
instance [h : LkR ρ i (.ow ds)] : Stp (itO i ρ QL) (QL ds) := ⟨w_itO h.e⟩
instance [h : LkR ρ i (.va d)] : Stp (eVar i ρ Q) (Q d) := ⟨w_var h.e⟩
instance : Stp (eC d ρ Q) (Q d) := ⟨w_c⟩
instance : Stp (eOp f2 m n ρ Q) (m ρ fun x => n ρ fun y => f2 x y Q) := ⟨w_op⟩
instance : Stp (eUn f1 m ρ Q) (m ρ fun x => f1 x Q) := ⟨w_un⟩
instance : Stp (eT m ρ QB) (m ρ (kT QB)) := ⟨w_t⟩
instance : Stp (kT QB (.bool bb)) (QB bb) := ⟨w_kT⟩
instance : Stp (mAnd c c' ρ QB) (c ρ fun b => if b = true then c' ρ QB else QB false) := ⟨w_mAnd⟩
instance : Stp (mOr c c' ρ QB) (c ρ fun b => if b = true then QB true else c' ρ QB) := ⟨w_mOr⟩
instance : Stp (mNot c ρ QB) (c ρ fun b => QB (!b)) := ⟨w_mNot⟩
instance : Stp (mYes ρ QB) (QB true) := ⟨w_yes⟩
instance : Stp (eAnd m n ρ Q) (m ρ (kAnd n ρ Q)) := ⟨w_eAnd⟩
instance : Stp (kAnd n ρ Q (.bool bb)) (if bb = true then n ρ Q else Q (.bool false)) := ⟨w_kAnd⟩
instance : Stp (eOr m n ρ Q) (m ρ (kOr n ρ Q)) := ⟨w_eOr⟩
instance : Stp (kOr n ρ Q (.bool bb)) (if bb = true then Q (.bool true) else n ρ Q) := ⟨w_kOr⟩
instance : Stp (eNot m ρ Q) (m ρ (kNot Q)) := ⟨w_eNot⟩
instance : Stp (kNot Q (.bool bb)) (Q (.bool (!bb))) := ⟨w_kNot⟩
instance : Stp (eIf c m n ρ Q) (c ρ fun b => if b = true then m ρ Q else n ρ Q) := ⟨w_eIf⟩
instance : Stp (aNil ρ QL) (QL []) := ⟨w_nil⟩
instance : Stp (aCons m tl ρ QL) (m ρ fun d => tl ρ fun ds => QL (d :: ds)) := ⟨w_cons⟩
instance : Stp (eTup tl ρ Q) (tl ρ fun ds => ds.length ≤ 100000 ∧ Q (.tuple ds)) := ⟨w_tup⟩
instance : Stp (eLst tl ρ Q) (tl ρ fun ds => ds.length ≤ 100000 ∧ Q (.list ds)) := ⟨w_lst⟩
instance : Stp (eCall F tl ρ Q) (tl ρ fun ds => F ds Q) := ⟨w_call⟩
instance : Stp (eCallN k F tl ρ Q) (tl ρ fun ds => ds.length = k ∧ F ds Q) := ⟨w_callN⟩
instance [h : SetR ρ i (.va d) ρ1] : Stp (mgName i d ρ QE) (QE ρ1) := ⟨w_mgName h.e⟩
instance [h : LnR ds k] : Stp (mgTup k gs (.tuple ds) ρ QE) (gs ds ρ QE) := ⟨w_mgTup h.e⟩
instance [h : LnR ds k] : Stp (mgLst k gs (.list ds) ρ QE) (gs ds ρ QE) := ⟨w_mgLst h.e⟩
instance : Stp (mgCons g gs (d :: r) ρ QE) (g d ρ fun ρ2 => gs r ρ2 QE) := ⟨w_mgCons⟩
instance : Stp (mgNil [] ρ QE) (QE ρ) := ⟨w_mgNil⟩
instance : Stp (itL m ρ QL) (m ρ (kItL QL)) := ⟨w_itL⟩
instance : Stp (kItL QL (.list ds)) (QL ds) := ⟨w_kItL⟩
instance : Stp (itT m ρ QL) (m ρ (kItT QL)) := ⟨w_itT⟩
instance : Stp (kItT QL (.tuple ds)) (QL ds) := ⟨w_kItT⟩
instance : Stp (itR1 tl ρ QL) (tl ρ (kR1 QL)) := ⟨w_itR1⟩
instance [h : WipR ρ is ρ1] : Stp (eLc it is g c m ρ Q) (it ρ fun ds => ds.length < 100000 ∧ lcW g c m ρ1 ds [] fun out => Q (.list out)) := ⟨fun q => w_lc (by rw [h.e]; exact q)⟩
instance : Stp (lcW g c m ρ (d :: ds) es QL) (g d ρ fun ρ1 => c ρ1 fun b => if b = true then m ρ1 fun y => lcW g c m ρ ds (es ++ [y]) QL else lcW g c m ρ ds es QL) := ⟨w_lcC⟩
instance [h : ListR es ds] : Stp (lcW g c m ρ [] es QL) (QL ds) := ⟨fun q => w_lcN (by rw [h.e]; exact q)⟩
instance : Stp (oNone ρ QO) (QO none) := ⟨w_oNone⟩
instance : Stp (oSome m ρ QO) (m ρ (kO QO)) := ⟨w_oSome⟩
instance : Stp (kO QO (.int x)) (QO (some x)) := ⟨w_kO⟩
instance : Stp (eSl m lo hi ρ Q) (m ρ fun d => lo ρ fun l => hi ρ fun h => fSl d l h Q) := ⟨w_eSl⟩
instance : Stp (fSl (.list ds) lo1 hi1 Q) (Q (.list (cutD ds lo1 hi1))) := ⟨w_fSlL⟩
instance : Stp (fSl (.tuple ds) lo1 hi1 Q) (Q (.tuple (cutD ds lo1 hi1))) := ⟨w_fSlT⟩
instance : Stp (fAdd (.int x) (.int y) Q) (Q (.int (x + y))) := ⟨w_add⟩
instance : Stp (fSub (.int x) (.int y) Q) (Q (.int (x - y))) := ⟨w_sub⟩
instance : Stp (fLt (.int x) (.int y) Q) (Q (.bool (decide (x < y)))) := ⟨w_lt⟩
instance : Stp (fLe (.int x) (.int y) Q) (Q (.bool (decide (x ≤ y)))) := ⟨w_le⟩
instance : Stp (fGt (.int x) (.int y) Q) (Q (.bool (decide (y < x)))) := ⟨w_gt⟩
instance : Stp (fGe (.int x) (.int y) Q) (Q (.bool (decide (y ≤ x)))) := ⟨w_ge⟩
instance : Stp (fNeg (.int x) Q) (Q (.int (-x))) := ⟨w_neg⟩
instance : Stp (fSubB (.bool bb) (.bool b2) Q) (Q (.int ((if bb = true then 1 else 0) - (if b2 = true then 1 else 0)))) := ⟨w_subB⟩
instance : Stp (fAbs [.int x] Q) (Q (.int (if x < 0 then -x else x))) := ⟨w_abs⟩
instance : Stp (fInt [.int x] Q) (Q (.int x)) := ⟨w_intc⟩
instance : Stp (fTuple [.list ds] Q) (Q (.tuple ds)) := ⟨w_tupL⟩
instance : Stp (fTuple [.tuple ds] Q) (Q (.tuple ds)) := ⟨w_tupT⟩
instance : Stp (fList [.list ds] Q) (Q (.list ds)) := ⟨w_lisL⟩
instance : Stp (fList [.tuple ds] Q) (Q (.list ds)) := ⟨w_lisT⟩
instance : Stp (fIsN .none .none Q) (Q (.bool true)) := ⟨w_isNn⟩
instance : Stp (fIsN (.tuple ds) .none Q) (Q (.bool false)) := ⟨w_isNt⟩
instance : Stp (fIsN (.int x) .none Q) (Q (.bool false)) := ⟨w_isNi⟩
instance : Stp (fNotN .none .none Q) (Q (.bool false)) := ⟨w_notNn⟩
instance : Stp (fNotN (.tuple ds) .none Q) (Q (.bool true)) := ⟨w_notNt⟩
instance : Stp (fNotN (.int x) .none Q) (Q (.bool true)) := ⟨w_notNi⟩
instance : Stp (fIsB (.bool bb) (.bool b2) Q) (Q (.bool (decide (bb = b2)))) := ⟨w_isB⟩
instance : Stp (fNotB (.bool bb) (.bool b2) Q) (Q (.bool (!decide (bb = b2)))) := ⟨w_notB⟩
instance [h : AtR ds x d] : Stp (fIx (.tuple ds) (.int x) Q) (Q d) := ⟨w_ixT h.e⟩
instance [h : AtR ds x d] : Stp (fIx (.list ds) (.int x) Q) (Q d) := ⟨w_ixL h.e⟩
instance [h : IsiR T d bb] : Stp (fIsi T d Q) (Q (.bool bb)) := ⟨fun q => by obtain ⟨a, h1, h2⟩ := h.e; exact w_isi h1 (by rw [h2]; exact q)⟩
instance [h : AllR ds bb] : Stp (fAll [.list ds] Q) (Q (.bool bb)) := ⟨fun q => by obtain ⟨a, h1, h2⟩ := h.e; exact w_all h1 h2 q⟩
instance : Stp (if true = true then A else B) (A) := ⟨w_iteT rfl⟩
instance : Stp (if false = true then A else B) (B) := ⟨w_iteF rfl⟩
instance [h : LnR ds k] : Stp (ds.length = k ∧ A) (A) := ⟨w_and h.e⟩
instance [h : Shrt ds 100000] : Stp (ds.length ≤ 100000 ∧ A) (A) := ⟨w_and h.e⟩
instance [h : Shrt ds 99999] : Stp (ds.length < 100000 ∧ A) (A) := ⟨w_and (Nat.lt_succ_of_le h.e)⟩
instance (priority := 500) : Stp (lcW g c m ρ [] es QL) (QL es) := ⟨w_lcN⟩
instance (priority := 500) : Stp (fLen [.list ds] Q) (Q (.int ds.length)) := ⟨w_lenL⟩
instance (priority := 500) : Stp (fLen [.tuple ds] Q) (Q (.int ds.length)) := ⟨w_lenT⟩
end
section
variable {Q : D → Prop} {a b c d e f g h i j k l : D}
instance : Stp (fLen [.list []] Q) (Q (.int 0)) := ⟨w_lenL (ds := [])⟩
instance : Stp (fLen [.tuple []] Q) (Q (.int 0)) := ⟨w_lenT (ds := [])⟩
instance : Stp (fLen [.list [a]] Q) (Q (.int 1)) := ⟨w_lenL (ds := [a])⟩
instance : Stp (fLen [.tuple [a]] Q) (Q (.int 1)) := ⟨w_lenT (ds := [a])⟩
instance : Stp (fLen [.list [a, b]] Q) (Q (.int 2)) := ⟨w_lenL (ds := [a, b])⟩
instance : Stp (fLen [.tuple [a, b]] Q) (Q (.int 2)) := ⟨w_lenT (ds := [a, b])⟩
instance : Stp (fLen [.list [a, b, c]] Q) (Q (.int 3)) := ⟨w_lenL (ds := [a, b, c])⟩
instance : Stp (fLen [.tuple [a, b, c]] Q) (Q (.int 3)) := ⟨w_lenT (ds := [a, b, c])⟩
instance : Stp (fLen [.list [a, b, c, d]] Q) (Q (.int 4)) := ⟨w_lenL (ds := [a, b, c, d])⟩
instance : Stp (fLen [.tuple [a, b, c, d]] Q) (Q (.int 4)) := ⟨w_lenT (ds := [a, b, c, d])⟩
instance : Stp (fLen [.list [a, b, c, d, e]] Q) (Q (.int 5)) := ⟨w_lenL (ds := [a, b, c, d, e])⟩
instance : Stp (fLen [.tuple [a, b, c, d, e]] Q) (Q (.int 5)) := ⟨w_lenT (ds := [a, b, c, d, e])⟩
instance : Stp (fLen [.list [a, b, c, d, e, f]] Q) (Q (.int 6)) := ⟨w_lenL (ds := [a, b, c, d, e, f])⟩
instance : Stp (fLen [.tuple [a, b, c, d, e, f]] Q) (Q (.int 6)) := ⟨w_lenT (ds := [a, b, c, d, e, f])⟩
instance : Stp (fLen [.list [a, b, c, d, e, f, g]] Q) (Q (.int 7)) := ⟨w_lenL (ds := [a, b, c, d, e, f, g])⟩
instance : Stp (fLen [.tuple [a, b, c, d, e, f, g]] Q) (Q (.int 7)) := ⟨w_lenT (ds := [a, b, c, d, e, f, g])⟩
instance : Stp (fLen [.list [a, b, c, d, e, f, g, h]] Q) (Q (.int 8)) := ⟨w_lenL (ds := [a, b, c, d, e, f, g, h])⟩
instance : Stp (fLen [.tuple [a, b, c, d, e, f, g, h]] Q) (Q (.int 8)) := ⟨w_lenT (ds := [a, b, c, d, e, f, g, h])⟩
instance : Stp (fLen [.list [a, b, c, d, e, f, g, h, i]] Q) (Q (.int 9)) := ⟨w_lenL (ds := [a, b, c, d, e, f, g, h, i])⟩
instance : Stp (fLen [.tuple [a, b, c, d, e, f, g, h, i]] Q) (Q (.int 9)) := ⟨w_lenT (ds := [a, b, c, d, e, f, g, h, i])⟩
instance : Stp (fLen [.list [a, b, c, d, e, f, g, h, i, j]] Q) (Q (.int 10)) := ⟨w_lenL (ds := [a, b, c, d, e, f, g, h, i, j])⟩
instance : Stp (fLen [.tuple [a, b, c, d, e, f, g, h, i, j]] Q) (Q (.int 10)) := ⟨w_lenT (ds := [a, b, c, d, e, f, g, h, i, j])⟩
end
local macro_rules | `(tactic| tb_rel) => `(tactic| with_reducible refine Stp.h ?_)
local macro_rules | `(tactic| f_look) => `(tactic| exact ⟨rfl, rfl⟩)
local macro_rules | `(tactic| canon_of) => `(tactic| with_reducible first
  | refine w_mul ?_ ?_ | refine w_div ?_ ?_ | refine w_mod ?_ ?_ | refine w_pow ?_ ?_ | (refine w_eq ?_ ?_ ?_) | (refine w_ne ?_ ?_ ?_) | refine w_catL ?_ ?_ | refine w_catS ?_ ?_)
local macro_rules | `(tactic| pv_isi_meta) => `(tactic| fail)
local macro_rules | `(tactic| pv_isi_sub_true) => `(tactic| first | exact True.intro | with_reducible exact rfl | decide | exact Nat.le_of_ble_eq_true rfl | exact rfl)
local macro_rules | `(tactic| pv_isi_answer) => `(tactic| first
  | (with_reducible refine w_iteT ?hb ?_; (case hb => decide))
  | (with_reducible refine w_iteF ?hb ?_; (case hb => decide)))
local macro_rules | `(tactic| tb_start) => `(tactic| first
  | ((with_reducible refine w_eq ?h1 ?h2 ?_); (case h1 => f_look); (case h2 => f_look))
  | ((with_reducible refine w_ne ?h1 ?h2 ?_); (case h1 => f_look); (case h2 => f_look))
  | ((with_reducible refine w_kR1 ?h1 ?h2 ?_); (case h1 => decide); (case h2 => decide))
  | (canon_of <;> try first | f_look | pv_isi_meta)
  | pv_isi_answer
  | ((with_reducible refine w_and ?hl ?_); (case hl => pv_isi_sub_true)))
local macro_rules | `(tactic| placed_of0) => `(tactic| repeat (first | tb_rel | tb_start))
local macro_rules | `(tactic| kfm_turns) => `(tactic| repeat ((fail_if_success (with_reducible refine w_seq ?_)); first | tb_rel | tb_start))


/-! ### the words of exceptions -/
def kAsgX (g : MG) (ρ : En) (nx : En → Prop) (rt : D → Prop) (d : D) : Prop := (∀ z, excOf d = some z → rt d) ∧ (excOf d = none → g d ρ nx)
def kNo (Q : D → Prop) (d : D) : Prop := excOf d = none ∧ Q d
def kTry (rt : D → Prop) (d : D) : Prop := match excOf d with
  | some z => rt (.str z)
  | none => rt d
section
variable {s : MS} {ρ : En} {nx bk ct : En → Prop} {rt Q : D → Prop} {m : En → M D} {g : MG} {F : List D → M D} {ds : List D} {d : D} {z : Str} {i : Int} {b : Bool}
theorem kAsgX_of (h : excOf d = none) (q : g d ρ nx) : kAsgX g ρ nx rt d := ⟨fun z e => (by rw [h] at e; cases e), fun _ => q⟩
theorem kAsgX_ex (q : rt (exD z)) : kAsgX g ρ nx rt (exD z) := ⟨fun _ _ => q, fun e => absurd e (by rw [excOf_exD]; simp)⟩
instance : Stp (sRaise z ρ ⟨nx, rt, bk, ct⟩) (rt (exD z)) := ⟨fun q => q⟩
instance : Stp (sAsgX m g ρ ⟨nx, rt, bk, ct⟩) (m ρ (kAsgX g ρ nx rt)) := ⟨fun q => q⟩
instance : Stp (kAsgX g ρ nx rt (.tuple ds)) (g (.tuple ds) ρ nx) := ⟨kAsgX_of rfl⟩
instance : Stp (kAsgX g ρ nx rt (.list ds)) (g (.list ds) ρ nx) := ⟨kAsgX_of rfl⟩
instance : Stp (kAsgX g ρ nx rt (exD z)) (rt (exD z)) := ⟨kAsgX_ex⟩
instance : Stp (noX F ds Q) (F ds (kNo Q)) := ⟨fun q => q⟩
instance : Stp (kNo Q (.tuple ds)) (Q (.tuple ds)) := ⟨fun q => ⟨rfl, q⟩⟩
instance : Stp (kNo Q (.list ds)) (Q (.list ds)) := ⟨fun q => ⟨rfl, q⟩⟩
instance : Stp (kNo Q (.int i)) (Q (.int i)) := ⟨fun q => ⟨rfl, q⟩⟩
instance : Stp (kNo Q (.bool b)) (Q (.bool b)) := ⟨fun q => ⟨rfl, q⟩⟩
instance : Stp (kNo Q (.str z)) (Q (.str z)) := ⟨fun q => ⟨rfl, q⟩⟩
instance : Stp (kNo Q .none) (Q .none) := ⟨fun q => ⟨rfl, q⟩⟩
instance : Stp (sTry s ρ ⟨nx, rt, bk, ct⟩) (s ρ ⟨nx, kTry rt, bk, ct⟩) := ⟨fun q => q⟩
instance : Stp (kTry rt (exD z)) (rt (.str z)) := ⟨fun q => q⟩
instance : Stp (kTry rt (.tuple ds)) (rt (.tuple ds)) := ⟨fun q => q⟩
instance : Stp (kTry rt (.list ds)) (rt (.list ds)) := ⟨fun q => q⟩
instance : Stp (kTry rt (.str z)) (rt (.str z)) := ⟨fun q => q⟩
end

/-! ### reading an own list: its length, a part -/
def eLenO (i : Nat) : En → M D := fun ρ Q => match ρ[i]? with
  | some (.ow ds) => Q (.int ds.length)
  | _ => False
def kIxO (ds : List D) (Q : D → Prop) (d : D) : Prop := match d with
  | .int j => match atI ds j with
    | some z => Q z
    | none => False
  | _ => False
def eIxO (i : Nat) (m : En → M D) : En → M D := fun ρ Q => match ρ[i]? with
  | some (.ow ds) => m ρ (kIxO ds Q)
  | _ => False
section
variable {X : Cx} {aw : Option Addr} {x : Str} {p p0 pos : Pos} {m : En → M D} {i : Nat} {b : Expr}
theorem se_lenO (hg : Gl X "len") (hm : X.mg "len" = none) (hv : PE X (.Name x p) (tVar i)) (he : starEach [.Name x p] X.env = (false, eval (.Name x p) X.env) :: starEach [] X.env := by rfl) (hpl : (backTo pos (starEach [] X.env)).any (·.1) = false := by rfl) : SE X aw (.Call (.Name "len" p0) [.Name x p] [] pos) (eLenO i) := by
  have hA : PA X [.Name x p] (tCons (tVar i) tNil) := pa_cons hv pa_nil (by rfl)
  refine pe_to (pe_callB call_len_seq hg hm PySem.boot_len hA (by decide) (by decide) he hpl) fun σ H R => ?_
  rintro ⟨G, B, ρ, Q, o, hq, k⟩
  unfold eLenO at hq
  split at hq
  · rename_i ds hd
    obtain ⟨a, xs, e, hx, r⟩ := getO_V o hd
    refine ⟨_, e, a, xs, rfl, .inl (.inl (.inl hx)), ?_⟩
    rw [r.length]
    exact k _ H _ (.refl _ _) o.wld (.int _) hq
  · cases hq
theorem se_ixO (hv : PE X (.Name x p) (tVar i)) (hb : SE X aw b m) (hs : PlainIx b := by exact fun _ _ => rfl) : SE X aw (.Subscript (.Name x p) b pos) (eIxO i m) := pe_to (pe_ix ix_seq hv hb hs) fun σ H R => by
  rintro ⟨G, B, ρ, Q, o, hq, k⟩
  unfold eIxO at hq
  split at hq
  · rename_i ds hd
    obtain ⟨a, xs, e, hx, r⟩ := getO_V o hd
    refine ⟨_, e, G, B, ρ, _, o, hq, fun y H1 d e1 w1 r1 q1 => ?_⟩
    have o1 := o.grow e1 w1
    obtain ⟨a', xs', e', hx', r'⟩ := getO_V o1 hd
    rw [e] at e'
    have ep : a = a' := by injection e' with e'; injection e' with e'; injection e'
    subst ep
    unfold kIxO at q1
    split at q1
    · cases r1
      split at q1
      · rename_i z hz
        obtain ⟨v, v1, v2⟩ := r'.atI hz
        exact .inl ⟨_, _, _, v, rfl, rfl, .inl (.inl hx'), v1, k v H1 z e1 w1 v2 q1⟩
      · cases q1
    · cases q1
  · cases hq
end
section
variable {ρ : En} {Q : D → Prop} {m : En → M D} {i : Nat} {ds : List D} {d z : D} {j : Int}
theorem w_lenO (h : ρ[i]? = some (.ow ds)) (q : Q (.int ds.length)) : eLenO i ρ Q := by unfold eLenO; rw [h]; exact q
theorem w_ixO (h : ρ[i]? = some (.ow ds)) (q : m ρ (kIxO ds Q)) : eIxO i m ρ Q := by unfold eIxO; rw [h]; exact q
theorem w_kIxO (h : atI ds j = some z) (q : Q z) : kIxO ds Q (.int j) := by unfold kIxO; simp only [h]; exact q
instance [h : LkR ρ i (.ow ds)] : Stp (eLenO i ρ Q) (Q (.int ds.length)) := ⟨w_lenO h.e⟩
instance [h : LkR ρ i (.ow ds)] : Stp (eIxO i m ρ Q) (m ρ (kIxO ds Q)) := ⟨w_ixO h.e⟩
end

/-! ### tuples put together -/
def fCatT : D → D → M D := fun x y Q => match x, y with
  | .tuple a, .tuple b => a ≠ [] ∧ b ≠ [] ∧ a.length + b.length ≤ 100000 ∧ Q (.tuple (a ++ b))
  | _, _ => False
section
variable {K : PySem.W.Frag} {aw : Option Addr}
theorem rpA_nil_of {H : Hp} {vs : List V} {ds : List D} (r : RpA K aw H vs ds) (h : ds ≠ []) : vs ≠ [] := fun z => by
  subst z
  cases r
  exact h rfl
theorem ok_catT : OpOk K aw (rCatT K) fCatT := by
  intro H B x y d e Q R w hB rx ry q k
  unfold fCatT at q
  split at q
  · rename_i a b
    cases rx with
    | tup h1 r1 =>
    cases ry with
    | tup h2 r2 =>
    refine ⟨_, _, _, _, rfl, rfl, sqT_less h1, sqT_less h2, rpA_nil_of r1 q.1, by rw [r1.length, r2.length]; exact le_line q.2.2.1, fun z => (rpA_nil_of r2 q.2.1 z).elim, fun _ p hp => ?_⟩
    exact k _ _ _ (.new hp) (w.fresh hp) (.tup (.inl (.inl (new_cut hp hB))) (rpA_new w hp (r1.app r2))) q.2.2.2
  · cases q
end
section
variable {X : Cx} {aw : Option Addr} {a b c : Expr} {m n l : En → M D} {pos : Pos}
theorem se_catT (ha : SE X aw a m) (hb : SE X aw b n) : SE X aw (.BinOp a .Add b pos) (eOp fCatT m n) := se_op op_catT ok_catT ha hb
end
section
variable {ds es : List D} {d e : D} {Q : D → Prop}
theorem w_catT (h : (d :: ds).length + (e :: es).length ≤ 100000) (q : Q (.tuple (d :: ds ++ e :: es))) : fCatT (.tuple (d :: ds)) (.tuple (e :: es)) Q := ⟨by simp, by simp, h, q⟩
end

/-! ### an own list made longer by a new one -/
def sCatO (i : Nat) (m : En → M D) : MS := fun ρ P => match ρ[i]? with
  | some (.ow ds) => m ρ fun d => match d with
    | .list es => ds.length + es.length ≤ 100000 ∧ P.nx (ρ.set i (.ow (ds ++ es)))
    | _ => False
  | _ => False
/-- a table of numbers by words, asked at once -/
def tabAt (kvs : List (Str × Int)) (c : Int) (z : Str) : Int := ((kvs.find? fun kv => decide (kv.1 = z)).map (·.2)).getD c
def eTab3 (a b d : Str) (i j l c : Int) (m : En → M D) : En → M D := fun ρ Q => m ρ fun x => match x with
  | .str z => Q (.int (if a = z then i else if b = z then j else if d = z then l else c))
  | _ => False
section
variable {X : Cx} {aw : Option Addr} {x : Str} {p p1 p2 pos pos1 : Pos} {m : En → M D} {i : Nat} {b e : Expr}
theorem ss_catO (h : ∀ te, PE X (.BinOp (.Name x p1) .Add b pos1) te → PS X (.Assign [.Name x p] (.BinOp (.Name x p1) .Add b pos1) pos) (tAsg te (gName i))) (hv : PE X (.Name x p1) (tVar i)) (hb : SE X aw b m) : SS X aw (.Assign [.Name x p] (.BinOp (.Name x p1) .Add b pos1) pos) (sCatO i m) := ps_to (h _ (pe_op op_cat hv hb)) fun Dn σ H => by
  rintro ⟨G, B, ρ, P, o, hs, k1, k2, k3, k4⟩
  unfold sCatO at hs
  split at hs
  · rename_i ds hd
    obtain ⟨a, xs, e, hx, r⟩ := getO_V o hd
    refine ⟨_, e, G, B, ρ, _, o, hs, fun y H1 d e1 w1 r1 q1 => ?_⟩
    split at q1
    · rename_i es
      cases r1 with
      | lst h2 r2 =>
      have o1 := o.grow e1 w1
      obtain ⟨a', xs', e', hx', r'⟩ := getO_V o1 hd
      rw [e] at e'
      have ep : a = a' := by injection e' with e'; injection e' with e'; injection e'
      subst ep
      refine ⟨_, _, _, _, rfl, rfl, hx', (cut_some h2).1, by rw [r'.length, r2.length]; exact le_line q1.1, fun q hq => ?_⟩
      refine k1 _ _ _ _ (o1.made hq (r'.app r2) i) ?_ q1.2
      rw [cut_new hq]
      exact cut_ext e1
    · cases q1
  · cases hs
theorem w_catO {ρ : En} {P : Po} {ds : List D} (h : ρ[i]? = some (.ow ds)) (q : m ρ fun d => match d with | .list es => ds.length + es.length ≤ 100000 ∧ P.nx (ρ.set i (.ow (ds ++ es))) | _ => False) : sCatO i m ρ P := by
  unfold sCatO; rw [h]; exact q
end

/-! ### my words where an exception is handled -/
theorem pih_to {X : Cx} {tg e : Expr} {t t' : TI} (h : L2H.PIH X tg e t) (i : ∀ σ H R, t' σ H R → t σ H R) : L2H.PIH X tg e t' := ⟨fun pins s σ H R I q => h.run pins s σ H R I (i σ H R q)⟩
section
variable {X : Cx} {aw : Option Addr} {tg e a b : Expr} {es : List Expr} {m n : En → M D} {pos : Pos} {is : List Nat} {gs : MGs}
theorem si_listH (h : SE X aw e m) : L2H.PIH X tg e (tIc X.K aw (itL m)) := pih_to (pi_listH h) fun σ H R => by
  rintro ⟨G, B, ρ, Q, o, hm, k⟩
  refine ⟨G, B, ρ, _, o, hm, fun v H1 d e1 w1 r1 q1 => ?_⟩
  cases d with
  | list ds =>
    cases r1 with
    | lst h1 r2 =>
      have W := walk_list w1.ne h1 r2
      exact ⟨_, rfl, ⟨_, .inl (.inl (cut_some h1).1)⟩, k _ H1 ds _ _ e1 w1 W w1 w1 cut_sub (.refl _ _) q1⟩
  | _ => cases q1
theorem sg_tupH {k n : Nat} (hc : L2H.HotC X) (h : SGs X aw is es gs) (hn : (assignEach es X.env).length = n := by rfl) (hst : (assignEach es X.env).findIdx? (·.1) = none := by rfl) : SG X aw is (.Tuple es k pos) (mgTup n gs) := pg_to (pg_tupH hc h hn hst) fun v σ H R => by
  rintro ⟨G, B, ρ, d, Q, o, r, hg, k⟩
  cases d with
  | tuple ds =>
    cases r with
    | tup h1 r1 => exact ⟨_, _, rfl, sqT_less h1, by rw [r1.length]; exact hg.1, G, B, ρ, ds, Q, o, r1, hg.2, k⟩
  | _ => exact hg.elim
theorem sg_lstH {k n : Nat} (hc : L2H.HotC X) (h : SGs X aw is es gs) (hn : (assignEach es X.env).length = n := by rfl) (hst : (assignEach es X.env).findIdx? (·.1) = none := by rfl) : SG X aw is (.Tuple es k pos) (mgLst n gs) := pg_to (pg_unlH hc h hn hst) fun v σ H R => by
  rintro ⟨G, B, ρ, d, Q, o, r, hg, k⟩
  cases d with
  | list ds =>
    cases r with
    | lst h1 r1 => exact ⟨_, _, rfl, .inl (.inl (cut_some h1).1), by rw [r1.length]; exact hg.1, G, B, ρ, ds, Q, o, r1, hg.2, k⟩
  | _ => exact hg.elim
theorem se_neU (hu : X.A.units + 64 < cLine) (ha : SE X aw a m) (hb : SE X aw b n) : SE X aw (.Compare a [.NotEq] [b] pos) (eOp fNe m n) := se_cmp (op_neD hu) ok_ne ha hb (nobehind b (by decide) (by decide))
theorem st_neU (hu : X.A.units + 64 < cLine) (ha : SE X aw a m) (hb : SE X aw b n) : ST X aw (.Compare a [.NotEq] [b] pos) (eT (eOp fNe m n)) := st_op (op_neD hu) ok_ne ha hb (nobehind b (by decide) (by decide))
end
section
variable {X : Cx} {aw : Option Addr} {elt tg iter : Expr} {ifs : List Expr} {scope : Scope} {own : List (Str × Nat)} {pos : Pos} {it : En → M (List D)} {g : MG} {c : En → M Bool} {m : En → M D}
theorem se_lcH (hc : L2H.HotC X) (hN : X.N.Nodup) (ok : BlkOk X.N X.env.scope scope own) (hi : L2H.PIH X tg iter (tIc X.K aw it))
    (hg : ∀ s H C cl fp, SG (blkP X s H scope (compEnvC scope cl C X.env) fp) aw (own.map (·.2)) tg g) (ht : ∀ s H C cl fp, PTs (blkP X s H scope (compEnvC scope cl C X.env) fp) ifs (tT X.K aw c))
    (he : ∀ s H C cl fp, SE (blkP X s H scope (compEnvC scope cl C X.env) fp) aw elt m) (hs : ∀ x, foldedSetIterable iter X.env x = pure x := by intro _; rfl) :
    SE X aw (.ListComp elt [⟨tg, iter, ifs, 0⟩] scope pos) (eLc it (own.map (·.2)) g c m) := pe_to (pe_lcH hc hN hi ok hg ht he hs) lc_reads
end
/-- a slot is let go -/
theorem Ok.blank {K : PySem.W.Frag} {aw : Option Addr} {G : Gh} {B : List Addr} {σ : L2.St} {ρ : En} {H : Hp} (o : Ok K aw G B σ ρ H) (v : Option V) (i : Nat) : Ok K aw G B (σ.set i v) (ρ.set i .no) H where
  ext := o.ext
  wld := o.wld
  sub := o.sub
  own := o.own
  len := by simp [o.len]
  env := fun j s hs => by
    by_cases e : i = j
    · subst e
      by_cases hi : i < ρ.length
      · rw [List.getElem?_set_self hi] at hs
        cases hs
        trivial
      · rw [List.getElem?_eq_none (by simpa using hi)] at hs; cases hs
    · rw [List.getElem?_set_ne e] at hs
      rw [List.getElem?_set_ne e]
      exact o.env j s hs
  apart := fun j k p ds es h1 h2 h3 h4 => by
    obtain ⟨nj, h1⟩ := set_ow (fun _ z => by cases z) h1
    obtain ⟨nk, h2⟩ := set_ow (fun _ z => by cases z) h2
    rw [List.getElem?_set_ne nj] at h3
    rw [List.getElem?_set_ne nk] at h4
    exact o.apart j k p ds es h1 h2 h3 h4
/-! ### try: name = e; rest / except Unfit as x: st1; if x.word != '..' or c: A -/
/-- what the written part says of the class -/
structure TryU (K : PySem.W.Frag) (mg : Str → Option Value) (C : Addr) : Prop where
  X : XfC K C
  fld : PySem.W.findIn K (.ref C) "word" = some none
  one : PySem.W.exmOne K (.ref C) (.ref C) = some true
  gC : mg "Unfit" = some (.ref C)
def mIs (b : Bool) : En → M Bool := fun _ Q => Q b
abbrev letGo (i : Nat) (P : Po) : Po := ⟨fun ρ' => P.nx (ρ'.set i .no), P.rt, fun ρ' => P.bk (ρ'.set i .no), fun ρ' => P.ct (ρ'.set i .no)⟩
def sTryH (i : Nat) (m : En → M D) (g : MG) (s : MS) (s1 : MS) (bad : Str) (c : En → M Bool) (sA : MS) : MS := fun ρ P => m ρ fun d =>
  (∀ z, excOf d = some z → sSeq s1 (sIf (mOr (mIs (!decide (z = bad))) c) sA sNext) (ρ.set i .no) (letGo i P)) ∧
  (excOf d = none → g d ρ fun ρ1 => s ρ1 P)
theorem ss_tryH {X : Cx} {aw : Option Addr} {C : Addr} {c0 e0 c1 e1 c2 : Expr} {rest stA : List Stmt} {m m1 : En → M D} {g g1 : MG} {s sA : MS} {c : En → M Bool} {is is1 : List Nat} {i j : Nat} {bad : Str} {np p1 p2 p3 p4 p5 p6 pos pos' apos apos1 : Pos} (Z : TryU X.K X.mg C)
    (hs : X.stack = X.env :: X.outer) (hf : X.env.frame = some X.env.locals) (hN : X.N.Nodup) (hi : X.N[i]? = some ("error" : Str)) (hln : X.env.kindOf "error" = some .local) (hgU : Gl X "Unfit")
    (he : ∀ (W : WX) (pn : List (Addr × Obj)) (xe : Value → Shared → Prop), L2N.Takes (X.tr pn xe) W → SEXN (X.tr pn xe) aw C W e0 m) (hg : ∀ (pn : List (Addr × Obj)) (xe : Value → Shared → Prop), SG (X.tr pn xe) aw is c0 g)
    (hr : ∀ (pn : List (Addr × Obj)) (xe : Value → Shared → Prop), PassesOwn (model X.prog X.w) X.A X.env xe → SSs (X.tr pn xe) aw rest s)
    (h1 : ∀ (a : Addr) (pn : List (Addr × Obj)), L2H.HotC (X.suite a pn) → SE (X.suite a pn) aw e1 m1) (h1g : ∀ (a : Addr) (pn : List (Addr × Obj)), L2H.HotC (X.suite a pn) → SG (X.suite a pn) aw is1 c1 g1) (hi1 : i ∉ is1)
    (h2 : ∀ (a : Addr) (pn : List (Addr × Obj)), L2H.HotC (X.suite a pn) → ST (X.suite a pn) aw c2 c) (hA : ∀ (a : Addr) (pn : List (Addr × Obj)), SSs (X.suite a pn) aw stA sA)
    (hat : ∀ env : Env, attributeBase (.Name "error" p1) "word" env (eval (.Name "error" p1) env) = eval (.Name "error" p1) env)
    (hsw : swapsWithSole [c0] e0 apos.line X.env = pure false) (hww : swappedStores [c0] e0 X.env = pure none) (hae : (assignEach [c0] X.env).map (·.2) = [assign c0 X.env])
    (hsw1 : swapsWithSole [c1] e1 apos1.line X.env = pure false) (hww1 : swappedStores [c1] e1 X.env = pure none) (hae1 : (assignEach [c1] X.env).map (·.2) = [assign c1 X.env]) :
    SS X aw (.Try (.Assign [c0] e0 apos :: rest) [.ExceptHandler (some (.Name "Unfit" np)) (some "error") [.Assign [c1] e1 apos1, .If (.BoolOp .Or [.Compare (.Attribute (.Name "error" p1) "word" p2) [.NotEq] [.Constant (.str bad) j p3] p4, c2] p5) stA [] p6] pos'] [] [] pos) (sTryH i m g s (sAsg m1 g1) bad c sA) := by
  have hv : Vis X.env.scope "error" := .inl hln
  refine ps_to (L2N.ps_try_as (tb := fun W => tSeq (tAsg (tMXN X.K aw C (fun cls d σ H => σ.length = X.N.length → W cls d σ H) m) (tG X.K aw is g)) (tS X.K aw s))
    (ts := fun a cls d => tSeq (tAsg (tM X.K aw m1) (tG X.K aw is1 g1)) (tIfS (tOr (tTest (tOp rNe (tXf a cls d C "word" (tVar i)) (tC (.str bad)))) (tT X.K aw c)) (tS X.K aw sA) tNext)) (Wout := fun _ _ _ _ => False)
    hs hf hN hi hln ⟨hgU, by decide, .inl Z.gC⟩ ?_ (fun W pn xe tk po => pss_cons (ps_asg (he _ pn xe (fun u s' ⟨a, B, sI, pins, σ, H, cls, d, e, I, nb, up, sky, na, os, ag, w⟩ => tk u s' ⟨a, B, sI, pins, σ, H, cls, d, e, I, nb, up, sky, na, os, ag, w I.len⟩)) (hg pn xe) hsw hww hae) (hr pn xe po)) fun a oe cls d pn hz hfd => ?_) fun Dn σ H => ?_
  · rintro u s' ⟨_, _, _, _, _, _, _, _, _, _, _, _, _, _, _, _, z⟩
    exact z.elim
  · obtain ⟨vs, hvs⟩ := hfd
    have hot : L2H.HotC (X.suite a ((a, oe) :: pn)) := ⟨(a, oe), ⟨rfl, vs, hvs, hz.2.2 vs hvs⟩, List.mem_cons_self⟩
    exact pss_cons (ps_asg (h1 a _ hot) (h1g a _ hot) hsw1 hww1 hae1) (pss_one (ps_if (PW.pt (pw_or (pt_cmpR op_ne (pe_xf Z.X Z.fld hz.zc ⟨vs, hvs⟩ (pe_var (i := i) hi hv) (hat _)) pe_str (nobehind _ (by decide) (by decide))) (pw_or1 (h2 a _ hot)))) (hA a _) pss_nil))
  · rintro ⟨G, B, ρ, P, o, hm, k1, k2, k3, k4⟩
    refine ⟨G, B, ρ, _, o, hm, fun v H1 d e1 w1 r1 q1 => ?_, fun H' dx z e1 w1 hd q1 => ?_⟩
    · have ec := cut_ext (B := B) e1
      exact ⟨G, B, ρ, d, _, o.grow e1 w1, r1, q1.2 (excOf_rp r1), fun σ' ρ' o' sm q' => ⟨G, B, ρ', P, o', q', fun σ2 H2 ρ2 B2 o2 e2 q2 => k1 σ2 H2 ρ2 B2 o2 (ec.trans e2) q2, k2, fun σ2 H2 ρ2 B2 o2 e2 q2 => k3 σ2 H2 ρ2 B2 o2 (ec.trans e2) q2, fun σ2 H2 ρ2 B2 o2 e2 q2 => k4 σ2 H2 ρ2 B2 o2 (ec.trans e2) q2⟩⟩
    · intro hlen
      have hil : i < σ.length := by rw [hlen]; exact (List.getElem?_eq_some_iff.mp hi).1
      refine ⟨true, Z.one, fun _ a ha => ?_, fun h => nomatch h⟩
      have o1 := (o.grow e1 w1).blank (some (.ref a)) i
      have q2 := q1.1 z rfl
      refine ⟨G, B, _, _, o1, q2, fun v H2 d e2 w2 r2 q3 => ⟨G, B, _, d, _, o1.grow e2 w2, r2, q3, fun σ3 ρ3 o3 sm q4 => ?_⟩⟩
      have hi3 : σ3[i]? = some (some (V.ref a)) := by
        rw [sm.2 i hi1, List.getElem?_set_self hil]
      have hd2 : H2 dx = some (.xd [("word", .str z)]) := e2.ap dx _ (fun _ _ y => nomatch y) hd
      have ec : Ext aw (cut H B) (cut H2 B) := cut_ext (e1.trans e2)
      refine ⟨_, hi3, rfl, rfl, dx, _, _, rfl, hd2, rfl, rfl, _, rfl, ?_⟩
      have eb : decide (V.str z = V.str bad) = decide (z = bad) := by
        by_cases y : z = bad
        · rw [decide_eq_true y, y, decide_eq_true rfl]
        · rw [decide_eq_false y, decide_eq_false fun w => y (V.str.inj w)]
      have gA : ∀ H5, Ext aw H2 H5 → World aw (cut H5 B) → sA ρ3 (letGo i P) →
          tS X.K aw sA { nx := fun σ' H' => Dn.nx (σ'.set i none) H', rt := Dn.rt, bk := fun σ' H' => Dn.bk (σ'.set i none) H', ct := fun σ' H' => Dn.ct (σ'.set i none) H' } σ3 H5 := fun H5 e5 w5 q5 => by
        have e6 := ec.trans (cut_ext (B := B) e5)
        exact ⟨G, B, ρ3, _, o3.grow e5 w5, q5, fun σ4 H4 ρ4 B4 o4 e4 q => k1 _ H4 _ B4 (o4.blank none i) (e6.trans e4) q, k2, fun σ4 H4 ρ4 B4 o4 e4 q => k3 _ H4 _ B4 (o4.blank none i) (e6.trans e4) q, fun σ4 H4 ρ4 B4 o4 e4 q => k4 _ H4 _ B4 (o4.blank none i) (e6.trans e4) q⟩
      rw [eb]
      by_cases hz : z = bad
      · rw [decide_eq_true hz]
        have q5 : c ρ3 fun b => if b = true then sA ρ3 (letGo i P) else sNext ρ3 (letGo i P) := by
          have q4 := q4
          unfold sIf mOr mIs at q4
          rw [decide_eq_true hz] at q4
          exact q4
        refine ⟨G, B, ρ3, _, o3, q5, fun H5 b e5 w5 q6 => ?_⟩
        cases b with
        | true => exact gA H5 e5 w5 q6
        | false => exact k1 _ H5 _ B ((o3.grow e5 w5).blank none i) (ec.trans (cut_ext e5)) q6
      · rw [decide_eq_false hz]
        have q5 : sA ρ3 (letGo i P) := by
          have q4 := q4
          unfold sIf mOr mIs at q4
          rw [decide_eq_false hz] at q4
          exact q4
        exact gA H2 (.refl _ _) w2 q5

theorem ssxN_asg {X : Cx} {aw : Option Addr} {C : Addr} {W : WX} {e c : Expr} {pos : Pos} {m : En → M D} {g : MG} {is : List Nat} (he : SEXN X aw C W e m) (hg : SG X aw is c g) (hs : swapsWithSole [c] e pos.line X.env = pure false := by rfl) (hw : swappedStores [c] e X.env = pure none := by rfl) (h1 : (assignEach [c] X.env).map (·.2) = [assign c X.env] := by rfl) : SSXN X aw C W (.Assign [c] e pos) (sAsgX m g) :=
  ps_to (ps_asg he hg hs hw h1) fun Dn σ H => by
    rintro ⟨G, B, ρ, P, o, hs, k1, k2, k3, k4, k5⟩
    refine ⟨G, B, ρ, _, o, hs, fun v H1 d e1 w1 r1 q1 => ?_, fun H' dx z e1 w1 hd q1 => ?_⟩
    · have o1 := o.grow e1 w1
      exact ⟨G, B, ρ, d, _, o1, r1, q1.2 (excOf_rp r1), fun σ' ρ' o' _ q' => k1 σ' H1 ρ' B o' (cut_ext e1) q'⟩
    · have o1 := o.grow e1 w1
      obtain ⟨w2, _⟩ := ret_less o1 .non
      exact k5 σ H' dx z o1.ext w2 hd (q1.1 z rfl)
theorem ssxN_freeze {X : Cx} {aw : Option Addr} {C : Addr} {W : WX} {sts : List Stmt} {s : MS} {i : Nat} (h : SSsXN X aw C W sts s) : SSsXN X aw C W sts (sFreeze i s) := pss_to h fun Dn σ H => by
  rintro ⟨G, B, ρ, P, o, hs, k1, k2, k3, k4, k5⟩
  unfold sFreeze at hs
  split at hs
  · rename_i ds hd
    obtain ⟨B', o', ec⟩ := o.freeze hd
    exact ⟨G, B', _, P, o', hs, fun σ2 H2 ρ2 B2 o2 e2 q2 => k1 σ2 H2 ρ2 B2 o2 (ec.trans e2) q2, k2, fun σ2 H2 ρ2 B2 o2 e2 q2 => k3 σ2 H2 ρ2 B2 o2 (ec.trans e2) q2, fun σ2 H2 ρ2 B2 o2 e2 q2 => k4 σ2 H2 ρ2 B2 o2 (ec.trans e2) q2, k5⟩
  · cases hs
/-! ### what the top has written of the exceptions, put together -/
theorem raiseAtN {P : Program} {w : PySem.World} {K : PySem.W.Frag} {h : Heap} {mg : Str → Option Value} (X : K.In h) (G : h.Ns mainGlobals mg)
    {C fI cc cda N : Addr} {oc kV doc pm ct ccl cl2 : Value} {od an cdd cld dd : Option Addr} {osl ccs csl : Array (Option Value)} {qual nm q file : Str} {q1 q2 p0 p1 p2 p3 p4 p5 p6 p7 p8 p9 p10 p11 : Pos} {j : Nat} {msg : Str} {bs bm : List Value} {sn : List Str} {sub : List Value} {ab : Bool} {col : Option Bool} {k0 k1 k2 k3 k5 : Option Value} {vs : Array Value} {tf : Tok} {pl : Sem Bool}
    (a : PySem.W.nsIn K mainGlobals "Unfit" = some (some (.ref C)))
    (i : PySem.W.findIn K (.ref C) "__init__" = some (some (.ref fI)))
    (l : K.lookup fI = some ⟨oc, od, .func (PySem.W.ksFn "__init__" qual ⟨[], [⟨"self", none, q1⟩, ⟨"word", none, q2⟩], none, [], [], none, []⟩
      [.Expr (supCall p0 p1 p2 p3 p4 p5 p6 j msg) p7, .Assign [.Attribute (.Name "self" p8) "word" p9] (.Name "word" p10) p11] supScope .none kV doc pm an (.ref cda) ct cc), osl⟩)
    (cl : K.lookup C = some (excClassObj nm q C N bs bm true sn sub ab col dd k0 k1 k2 k3 k5 "ValueError.__new__")) (hbm : PySem.HandSPX.refsVE bm = true)
    (sa : PySem.W.findIn K (.ref C) "__setattr__" = some (some (.builtin "object.__setattr__"))) (exC : PySem.W.subIn K (.ref C) (.type "BaseException") = some true) (tyC : PySem.W.typeIn K (.ref C) = some (.type "type")) (kC : PySem.W.keepIn K (.ref C) = true)
    (ty : PySem.W.typeIn K (.ref fI) = some (.type "function")) (code : PySem.W.codeIn K (.ref cda) qual = true)
    (lc : K.lookup cda = some (⟨ccl, cdd, .fields vs, ccs⟩ : Obj)) (hvs : vs[2]? = some (.str file tf)) (hfile : ((P.main.file : Str) == file) = true)
    (cell : K.lookup cc = some (⟨cl2, cld, .cell (some (.ref C)), csl⟩ : Obj)) (su : PySem.W.nsIn K mainGlobals "super" = some none) (top : (P.main.scope.names.lookup ("super" : Str)).isSome = false)
    (sb : PySem.W.mroIn K C (.ref C) = some true) (no : PySem.W.nsIn K cStatics "thirdparty.any" = some none) (meth : PySem.W.ks_superIn K C C "__init__" = some (some (.builtin "ValueError.__init__"))) (isV : PySem.W.subIn K (.ref C) (.type "ValueError") = some true) (fld : PySem.W.findIn K (.ref C) "word" = some none)
    (hmsg : msg.length ≤ 1000)
    (hev : ∀ env : Env, eval (supCall p0 p1 p2 p3 p4 p5 p6 j msg) env = (do
      let ov ← attributeBase (.Call (.Name "super" p0) [] [] p1) "__init__" env (eval (.Call (.Name "super" p0) [] [] p1) env)
      standAt p2.atName
      let (f, first) ← holding [ov] (getMethod ov "__init__" pl)
      callWith p6 f first (backTo p6 (starEach [.BinOp (.Constant (.str msg) j p3) .Add (.Name "word" p4) p5] env)) []))
    (hsw : ∀ env : Env, swapsWith (supCall p0 p1 p2 p3 p4 p5 p6 j msg) none p7.line env = pure false)
    (hsw2 : ∀ env : Env, swapsWith (.Name "word" p10) (some (.Attribute (.Name "self" p8) "word" p9)) p11.line env = pure false) :
    ∀ base : Heap, RaiseAtN P w K mg base "Unfit" C := fun base => by
  have Z : SupAt P K mg C fI cc cda qual ⟨[], [⟨"self", none, q1⟩, ⟨"word", none, q2⟩], none, [], [], none, []⟩ :=
    ⟨rfl, code, ⟨_, _, _, _, _, _, lc, hvs, hfile⟩, ⟨_, _, _, cell⟩, PySem.W.mg_none_of X G su, top, sb, no, meth, isV, fld⟩
  refine ⟨⟨⟨_, _, _, _, _, _, _, _, _, _, _, _, _, _, _, cl, hbm⟩, sa, exC, tyC, kC⟩, PySem.W.mg_of X G a, fI, _, 1, i, ty, sup_fn (k := 0) Z hmsg hev hsw hsw2 l, .all fun us hl => ?_, Nat.le_refl _⟩
  match us, hl with
  | [_, _], _ => rfl
theorem tryUAt {K : PySem.W.Frag} {h : Heap} {mg : Str → Option Value} (X : K.In h) (G : h.Ns mainGlobals mg) {C : Addr} (u : PySem.W.nsIn K mainGlobals "Unfit" = some (some (.ref C)))
    (x1 : PySem.W.findIn K (.ref C) "__getattribute__" = some (some (.builtin "BaseException.__getattribute__"))) (x2 : PySem.W.findIn K (.ref C) "__getattr__" = some none) (x3 : PySem.W.subIn K (.ref C) (.type "BaseException") = some true) (x4 : PySem.W.hasDictIn K C = true)
    (fld : PySem.W.findIn K (.ref C) "word" = some none) (one : PySem.W.exmOne K (.ref C) (.ref C) = some true) : TryU K mg C := ⟨⟨x1, x2, x3, x4⟩, fld, one, PySem.W.mg_of X G u⟩

/-! ### one token is out: my words for replace -/
abbrev SST (X : Cx) (aw : Option Addr) (st : Stmt) (s : MS) : Prop := PST X st (tS X.K aw s)
abbrev SSsT (X : Cx) (aw : Option Addr) (st : List Stmt) (s : MS) : Prop := PSsT X st (tS X.K aw s)
theorem psst_to {X : Cx} {st : List Stmt} {t t' : TS} (h : PSsT X st t) (i : ∀ Dn σ H, t' Dn σ H → t Dn σ H) : PSsT X st t' := fun pins s σ H D h0 I q => h pins s σ H D h0 I (i D σ H q)
theorem pst_to {X : Cx} {st : Stmt} {t t' : TS} (h : PST X st t) (i : ∀ Dn σ H, t' Dn σ H → t Dn σ H) : PST X st t' := fun pins s σ H D h0 I q => h pins s σ H D h0 I (i D σ H q)
section
variable {X : Cx} {aw : Option Addr} {st : Stmt} {rest : List Stmt} {s t : MS}
theorem ssst_cons (h1 : SST X aw st s) (h2 : SSsT X aw rest t) : SSsT X aw (st :: rest) (sSeq s t) := psst_to (psst_cons h1 h2) fun Dn σ H => by
  rintro ⟨G, B, ρ, P, o, hs, k1, k2, k3, k4⟩
  refine ⟨G, B, ρ, _, o, hs, fun σ' H' ρ' B' o' e' q' => ?_, k2, k3, k4⟩
  exact ⟨G, B', ρ', P, o', q', fun σ2 H2 ρ2 B2 o2 e2 q2 => k1 σ2 H2 ρ2 B2 o2 (e'.trans e2) q2, k2, fun σ2 H2 ρ2 B2 o2 e2 q2 => k3 σ2 H2 ρ2 B2 o2 (e'.trans e2) q2, fun σ2 H2 ρ2 B2 o2 e2 q2 => k4 σ2 H2 ρ2 B2 o2 (e'.trans e2) q2⟩
theorem ssst_of (h : SSs X aw rest s) : SSsT X aw rest s := PSsT.of h
/-- name = f(a, number): behind it a token is out -/
theorem ss_gcall {x y : Str} {a : Expr} {m : En → M D} {F : List D → M D} {i j k jj : Nat} {c : Int} {p p' cp cpos pos : Pos} (h : Df X.prog X.w X.K X.mg X.base x 2 j F) (hr : Room k X.A) (hjk : j ≤ k) (hg : Gl X x) (ha : SE X aw a m) (hN : X.N.Nodup) (hi : X.N[i]? = some y) (hx : Loc X.env.scope y) (h2 : SSsT X aw rest s)
    (hs : swapsWith (.Call (.Name x p) [a, .Constant (.int c) jj cp] [] cpos) (some (.Name y p')) pos.line X.env = pure false := by rfl) (hf : X.fn y = true ∨ X.env.scope.names.lookup y = some .local := by first | exact .inl rfl | exact .inr rfl)
    (hdb : (x == ("__debug__" : Str)) = false := by decide) (he : starEach [a, .Constant (.int c) jj cp] X.env = (false, eval a X.env) :: starEach [.Constant (.int c) jj cp] X.env := by rfl) (hpl : (backTo cpos (starEach [.Constant (.int c) jj cp] X.env)).any (·.1) = false := by rfl)
    (hst : starEach [.Constant (.int c) jj cp] X.env = [(false, eval (.Constant (.int c) jj cp) X.env)] := by rfl) :
    SSs X aw (.Assign [.Name y p'] (.Call (.Name x p) [a, .Constant (.int c) jj cp] [] cpos) pos :: rest) (sSeq (sAsg (eCallN 2 F (aCons m (aCons (eC (.int c)) aNil))) (mgName i)) s) := by
  obtain ⟨f, fd, ps, h0, h1, hk, hb, h4⟩ := h.ex
  refine pss_to (t := tSeq (tAsg (tCall (spF X.K 2 F) [] E0 (tCons (tM X.K aw m) (tCons (tC (.int c)) tNil))) (gName i)) (tS X.K aw s)) ⟨fun pins s0 σ H D I q => ?_⟩ fun Dn σ H => ?_
  · refine wpAny_execs_cons (wpAny_Assign_Name ?_ hs)
    refine wpAny_Call_Name_kw (ld_glob I hg h1 ?_ hdb)
    refine PySem.W.callWith_K (h₀ := X.base) I.ok.mod.kin hk ?_ he hpl
    rw [he]
    show wpAny _ _ (spliced ((false, eval a X.env) :: backTo cpos (starEach [.Constant (.int c) jj cp] X.env))) _ _ s0
    refine Calls.spliced_cons (thn (ha.run pins s0 σ H _ I q) fun v s1 ⟨z, H1, I1, r1, q1⟩ => ?_)
    rw [hst]
    show wpAny _ _ (spliced [(false, eval (.Constant (.int c) jj cp) X.env)]) _ _ s1
    refine Calls.spliced_cons (wpAny_Constant_int (Calls.spliced_nil ⟨(I1.tok (s1.toks + 1)).kIn, ?_⟩))
    refine wpAny_mono (PySem.wpAny_toks (run_fn h4 (hr.mono hjk) hb .nil pass0 (I1.tok (s1.toks + 1)) (.cons r1 (.cons (show RelV (V.int c) (Value.int c s1.toks) from ⟨_, rfl⟩) .nil)) q1)) (fun w s2 ⟨t2, z2, H2, I2, r2, q2⟩ => ?_) fun _ _ y => y.2
    refine wpAny_mono (PySem.wpAny_toks (store_ok (Q := fun _ s3 => Inv X pins (σ.set i (some z2)) H2 s3) I2 hN hi hx r2 (fun s3 I3 => I3) hf)) (fun _ s3 ⟨t3, I3⟩ => ?_) fun _ _ y => y.2
    have t2 : s1.toks + 1 ≤ s2.toks := t2
    exact h2 pins s3 _ H2 D (by omega) I3 q2
  · rintro ⟨G, B, ρ, P, o, hm, k1, k2, k3, k4⟩
    refine ⟨G, B, ρ, _, o, hm, fun v H1 d e1 w1 r1 q1 => ?_⟩
    have o1 := o.grow e1 w1
    refine ⟨aw, B, [d, .int c], _, rfl, w1, o1.own, .cons r1 (.cons (.int c) .nil), q1.2, fun v2 H2 d2 e2 w2 r2 q2 => ?_⟩
    have ec : Ext aw (cut H B) (cut H2 B) := cut_ext (e1.trans e2)
    exact ⟨G, B, _, P, (o1.grow e2 w2).set r2 i, q2, fun σ3 H3 ρ3 B3 o3 e3 q3 => k1 σ3 H3 ρ3 B3 o3 (ec.trans e3) q3, k2, fun σ3 H3 ρ3 B3 o3 e3 q3 => k3 σ3 H3 ρ3 B3 o3 (ec.trans e3) q3, fun σ3 H3 ρ3 B3 o3 e3 q3 => k4 σ3 H3 ρ3 B3 o3 (ec.trans e3) q3⟩
end
/-! ### tests where a token is out -/
def PTT (X : Cx) (e : Expr) (t : TT) : Prop := ∀ (pins : List (Addr × Obj)) (s : Shared) (σ : L2.St) (H : Hp) (Q : Bool → Hp → Prop), 1 ≤ s.toks → Inv X pins σ H s → t σ H Q → wpAny (model X.prog X.w) X.A (isTrue e X.env (eval e X.env)) (TP X pins σ Q) X.xe s
abbrev STT (X : Cx) (aw : Option Addr) (e : Expr) (m : En → M Bool) : Prop := PTT X e (tT X.K aw m)
abbrev SET (X : Cx) (aw : Option Addr) (e : Expr) (m : En → M D) : Prop := PET X e (tM X.K aw m)
theorem ptt_to {X : Cx} {e : Expr} {t t' : TT} (h : PTT X e t) (i : ∀ σ H Q, t' σ H Q → t σ H Q) : PTT X e t' := fun pins s σ H Q h0 I q => h pins s σ H Q h0 I (i σ H Q q)
theorem pet_to {X : Cx} {e : Expr} {t t' : TE} (h : PET X e t) (i : ∀ σ H Q, t' σ H Q → t σ H Q) : PET X e t' := fun pins s σ H Q h0 I q => h pins s σ H Q h0 I (i σ H Q q)
/-- e.replace('y', 'z') -/
def eRepl (y z : Str) (m : En → M D) : En → M D := fun ρ Q => m ρ fun d => match d with
  | .str x => x.length + (x.length + 1) * z.length ≤ 16777216 ∧ Q (.str (Txt.replace x y z))
  | _ => False
/-- int(text) -/
def fIntS : List D → M D := fun ds Q => match ds with
  | [.str a] => ∃ n, PySem.intText? a = some n ∧ a.length ≤ 640 ∧ Q (.int n)
  | _ => False
/-- text[i] -/
def fIxS : D → D → M D := fun x y Q => match x, y with
  | .str z, .int i => z.length ≤ 100000 ∧ ∃ c, atI z.cps.toList i = some c ∧ Q (.str ⟨#[c]⟩)
  | _, _ => False
/-- text.split('b') -/
def eSplit (m : En → M D) (b : Str) : En → M D := fun ρ Q => m ρ fun d => match d with
  | .str a => a.length ≤ 90000 ∧ (b.length == 0) = false ∧ Q (.list ((Txt.split a b).map PyData.str))
  | _ => False
section
variable {X : Cx} {aw : Option Addr} {o e a b : Expr} {es rest : List Expr} {sts sts2 : List Stmt} {m n : En → M D} {t u : En → M Bool} {s s2 : MS} {y z : Str} {j k : Nat} {c0 c1 apos pos p : Pos}
theorem repl_reads : ∀ σ H R, tM X.K aw (eRepl y z m) σ H R → CwR.tReplC (tM X.K aw m) y z σ H R := fun σ H R => by
  rintro ⟨G, B, ρ, Q, oo, hm, kk⟩
  refine ⟨G, B, ρ, _, oo, hm, fun v H1 d e1 w1 r1 q1 => ?_⟩
  cases d with
  | str x =>
    cases r1
    exact ⟨x, rfl, q1.1, kk _ H1 _ e1 w1 (.str _) q1.2⟩
  | _ => cases q1
theorem set_repl (ho : SE X aw o m) (hyz : (y == z) = false := by decide)
    (hst : starEach [.Constant (.str y) j c0, .Constant (.str z) k c1] X.env = [(false, eval (.Constant (.str y) j c0) X.env), (false, eval (.Constant (.str z) k c1) X.env)] := by rfl)
    (hbase : attributeBase o "replace" X.env (eval o X.env) = eval o X.env := by rfl) (hline : (apos.endLine == pos.line) = true := by rfl) :
    SET X aw (.Call (.Attribute o "replace" apos) [.Constant (.str y) j c0, .Constant (.str z) k c1] [] pos) (eRepl y z m) := pet_to (CwR.pet_replC ho hyz hst hbase hline) repl_reads
theorem set_replT (ho : SET X aw o m) (hyz : (y == z) = false := by decide)
    (hst : starEach [.Constant (.str y) j c0, .Constant (.str z) k c1] X.env = [(false, eval (.Constant (.str y) j c0) X.env), (false, eval (.Constant (.str z) k c1) X.env)] := by rfl)
    (hbase : attributeBase o "replace" X.env (eval o X.env) = eval o X.env := by rfl) (hline : (apos.endLine == pos.line) = true := by rfl) :
    SET X aw (.Call (.Attribute o "replace" apos) [.Constant (.str y) j c0, .Constant (.str z) k c1] [] pos) (eRepl y z m) := pet_to (CwR.pet_replT ho hyz hst hbase hline) repl_reads
theorem set_intc (hg : Gl X "int") (hm : X.mg "int" = none) (he : SET X aw e m) (hs : starEach [e] X.env = (false, eval e X.env) :: starEach [] X.env := by rfl) (hpl : (backTo pos (starEach [] X.env)).any (·.1) = false := by rfl) :
    SET X aw (.Call (.Name "int" p) [e] [] pos) (eCall fIntS (aCons m aNil)) := by
  intro pins s σ H Q h0 I q
  refine wpAny_Call_Name_kw (ld_blt I hg hm (show bootBuiltins "int" = some (.type "int") by decide +kernel) ?_ (by decide) (by decide))
  have ha : PAT X [e] (tCons (tM X.K aw m) tNil) := pat_cons he pat_nil hs
  obtain ⟨G, B, ρ, P, oo, hmm, kk⟩ := q
  refine PyProof.Rows.callWith_type1 (thn (ha pos pins s σ H (fun xs H' => ∃ a n, xs = [.str a] ∧ PySem.intText? a = some n ∧ a.length ≤ 640 ∧ Q (.int n) H') h0 I ⟨G, B, ρ, _, oo, hmm, fun v H1 d e1 w1 r1 q1 => ?_⟩) fun us s1 ⟨vs, H1, I1, r1, q1⟩ => call_int_str pins s1 σ H1 vs us Q I1 r1 q1) hs hpl
  cases d with
  | str x =>
    cases r1
    obtain ⟨n, h1, h2, h3⟩ := q1
    exact ⟨x, n, rfl, h1, h2, kk _ H1 _ e1 w1 (.int _) h3⟩
  | _ => cases q1
theorem stt_ne (hu : X.A.units + 64 < cLine) (ha : SET X aw a m) (hb : SE X aw b n) (hm : behindInMarks .NotEq b = false := by first | exact nobehind _ (by decide) (by decide) | rfl) : STT X aw (.Compare a [.NotEq] [b] pos) (eT (eOp fNe m n)) := by
  refine ptt_to (t := tTest (tOp (rNeD X.K) (tM X.K aw m) (tM X.K aw n))) (fun pins s σ H Q h0 I h => ?_) fun σ H R q => ?_
  · refine wpAny_isTrue_Compare1 (thn (ha pins s σ H _ h0 I h) fun v s1 ⟨x, H1, I1, r1, q1⟩ => thn (hb.run pins s1 σ H1 _ I1 q1) fun w s2 ⟨x2, H2, I2, r2, q2⟩ => thn (op_neD hu pins s2 σ H2 x x2 v w _ I2 r1 r2 q2) fun r s3 ⟨x3, H3, I3, r3, q3⟩ => ?_) hm
    obtain ⟨bb, rfl, q3⟩ := q3
    cases r3
    exact wpAny_truthy_bool ⟨H3, I3, q3⟩
  · obtain ⟨G, B, ρ, P, oo, hmm, kk⟩ := q
    refine op_reads ok_ne σ H _ ⟨G, B, ρ, _, oo, hmm, fun v H' d e w r q => ?_⟩
    cases d with
    | bool bb => cases r; exact ⟨bb, rfl, kk H' bb e w q⟩
    | _ => cases q
theorem stt_or (ha : STT X aw a t) (hb : SW X aw (.BoolOp .Or (b :: rest) pos) u) : STT X aw (.BoolOp .Or (a :: b :: rest) pos) (mOr t u) := by
  refine ptt_to (t := tOr (tT X.K aw t) (tT X.K aw u)) (fun pins s σ H Q h0 I h => ?_) or_reads
  refine isTrue_or (thn (ha pins s σ H _ h0 I h) fun c s1 ⟨H1, I1, q1⟩ => ?_)
  cases c with
  | true => exact ⟨H1, I1, q1⟩
  | false => exact hb.run _ pins s1 σ H1 Q I1 q1
theorem sst_if (hc : STT X aw e t) (ha : SSs X aw sts s) (hb : SSs X aw sts2 s2) : SST X aw (.If e sts sts2 pos) (sIf t s s2) := by
  refine pst_to (t := tIfS (tT X.K aw t) (tS X.K aw s) (tS X.K aw s2)) (fun pins s0 σ H D h0 I h => ?_) fun Dn σ H => ?_
  · refine wpAny_If (wpAny_mono (hc pins s0 σ H _ h0 I h) (fun c s1 ⟨H1, I1, q1⟩ => ?_) fun _ _ z => z)
    cases c with
    | true => exact ha.run pins s1 σ H1 D I1 q1
    | false => exact hb.run pins s1 σ H1 D I1 q1
  · rintro ⟨G, B, ρ, P, o, hs, k1, k2, k3, k4⟩
    refine ⟨G, B, ρ, _, o, hs, fun H1 b e1 w1 q1 => ?_⟩
    have ec : Ext aw (cut H B) (cut H1 B) := cut_ext e1
    have o1 := o.grow e1 w1
    cases b with
    | true => exact ⟨G, B, ρ, P, o1, q1, fun σ2 H2 ρ2 B2 o2 e2 q2 => k1 σ2 H2 ρ2 B2 o2 (ec.trans e2) q2, k2, fun σ2 H2 ρ2 B2 o2 e2 q2 => k3 σ2 H2 ρ2 B2 o2 (ec.trans e2) q2, fun σ2 H2 ρ2 B2 o2 e2 q2 => k4 σ2 H2 ρ2 B2 o2 (ec.trans e2) q2⟩
    | false => exact ⟨G, B, ρ, P, o1, q1, fun σ2 H2 ρ2 B2 o2 e2 q2 => k1 σ2 H2 ρ2 B2 o2 (ec.trans e2) q2, k2, fun σ2 H2 ρ2 B2 o2 e2 q2 => k3 σ2 H2 ρ2 B2 o2 (ec.trans e2) q2, fun σ2 H2 ρ2 B2 o2 e2 q2 => k4 σ2 H2 ρ2 B2 o2 (ec.trans e2) q2⟩
/-! texts taken apart -/
theorem ok_ixS {K : PySem.W.Frag} {aw : Option Addr} : OpOk K aw rIxS fIxS := by
  intro H B x y d e Q R w hB rx ry q k
  unfold fIxS at q
  split at q
  · cases rx
    cases ry
    obtain ⟨h1, c, h2, h3⟩ := q
    exact ⟨_, _, c, rfl, rfl, le_line h1, h2, k _ H _ (.refl _ _) w (.str _) h3⟩
  · cases q
theorem se_ixS (ha : SE X aw a m) (hb : SE X aw b n) (hs : PlainIx b := by exact fun _ _ => rfl) : SE X aw (.Subscript a b pos) (eOp fIxS m n) := pe_to (pe_ix ix_str ha hb hs) (op_reads ok_ixS)
theorem rpA_strs {K : PySem.W.Frag} {aw : Option Addr} {H : Hp} : ∀ ys : List Str, RpA K aw H (ys.map V.str) (ys.map PyData.str)
  | [] => .nil
  | y :: ys => .cons (.str y) (rpA_strs ys)
theorem se_split (ho : SE X aw o m) (hst : starEach [.Constant (.str z) k c1] X.env = [(false, eval (.Constant (.str z) k c1) X.env)] := by rfl) (hbase : attributeBase o "split" X.env (eval o X.env) = eval o X.env := by rfl) (hline : (apos.endLine == pos.line) = true := by rfl) :
    SE X aw (.Call (.Attribute o "split" apos) [.Constant (.str z) k c1] [] pos) (eSplit m z) := pe_to (pe_split ho pe_str hst hbase hline) fun σ H R => by
  rintro ⟨G, B, ρ, Q, oo, hm, kk⟩
  refine ⟨G, B, ρ, _, oo, hm, fun v H1 d e1 w1 r1 q1 => ?_⟩
  cases d with
  | str x =>
    cases r1
    refine ⟨⟨x, rfl⟩, x, z, rfl, rfl, q1.2.1, by have := le_line (show x.length + 2 ≤ 100000 by have := q1.1; omega); exact this, fun p hp => ?_⟩
    have hB := (oo.grow e1 w1).own
    exact kk _ _ _ (e1.trans (.new hp)) (w1.fresh hp) (.lst (new_cut hp hB) (rpA_new w1 hp (rpA_strs _))) q1.2.2
  | _ => cases q1
end

/-! ### a written table of three, asked at once: {'a': i, 'b': j, 'd': l}.get(e, c) -/
section
variable {X : Cx} {aw : Option Addr} {e : Expr} {m : En → M D} {a b d : Str} {i j l c : Int} {n1 n2 n3 n4 n5 n6 n7 : Nat} {q1 q2 q3 q4 q5 q6 q7 dpos apos cpos : Pos}
theorem se_tab3 (hu : X.A.units + 1 < cLine) (he : SE X aw e m) (hab : a ≠ b) (had : a ≠ d) (hbd : b ≠ d)
    (hm : M2 X (.Dict [some (.Constant (.str a) n1 q1), some (.Constant (.str b) n2 q2), some (.Constant (.str d) n3 q3)] [.Constant (.int i) n4 q4, .Constant (.int j) n5 q5, .Constant (.int l) n6 q6] dpos) "get" apos e (.Constant (.int c) n7 q7) cpos) :
    SE X aw (.Call (.Attribute (.Dict [some (.Constant (.str a) n1 q1), some (.Constant (.str b) n2 q2), some (.Constant (.str d) n3 q3)] [.Constant (.int i) n4 q4, .Constant (.int j) n5 q5, .Constant (.int l) n6 q6] dpos) "get" apos) [e, .Constant (.int c) n7 q7] [] cpos) (eTab3 a b d i j l c m) :=
  pe_to (pe_dget2 hu (pe_disp (pps_cons pe_str pe_int (pps_cons pe_str pe_int (pps_cons pe_str pe_int pps_nil))) rfl rfl (by simp) (by simp)) he pe_int hm) fun σ H R => by
  rintro ⟨G, B, ρ, Q, o, hq, k⟩
  intro p hp
  have hpn : upd H p (.dK []) p = some (.dK []) := upd_same
  refine ⟨hpn, [(.inr a, .int i), (.inr b, .int j), (.inr d, .int l)], rfl, by simp, ?_⟩
  have ew : upd (upd H p (.dK [])) p (.dK (mergeK [] [(.inr a, V.int i), (.inr b, .int j), (.inr d, .int l)])) = upd H p (.dK (mergeK [] [(.inr a, V.int i), (.inr b, .int j), (.inr d, .int l)])) := by
    funext x
    unfold upd
    split <;> rfl
  rw [ew]
  have e0 : Ext aw H (upd H p (.dK (mergeK [] [(.inr a, V.int i), (.inr b, .int j), (.inr d, .int l)]))) := .new hp
  have o1 := o.grow e0 (o.wld.fresh hp)
  have np : some p ≠ aw := NT.new (fun x ex => by obtain ⟨k', h'⟩ := o.wld.ne x ex; exact ⟨k', (cut_some h').1⟩) hp
  refine ⟨p, rfl, .inl ⟨_, .inl upd_same⟩, G, B, ρ, _, o1, hq, fun y H2 dd e2 w2 r2 q2 => ?_⟩
  cases dd with
  | str z =>
    cases r2
    have h2 : H2 p = some (.dK (mergeK [] [(.inr a, V.int i), (.inr b, .int j), (.inr d, .int l)])) := e2.ap p _ (fx_ne np) upd_same
    refine ⟨_, DGet.k (k := .inr z) h2, ?_⟩
    have em : mergeK [] [((.inr a : Key), V.int i), (.inr b, .int j), (.inr d, .int l)] = [(.inr a, .int i), (.inr b, .int j), (.inr d, .int l)] := by
      simp [mergeK, putK, hab, had, hbd]
    have ev : (valV (mergeK [] [((.inr a : Key), V.int i), (.inr b, .int j), (.inr d, .int l)]) (.inr z)).getD (.int c) = .int (if a = z then i else if b = z then j else if d = z then l else c) := by
      rw [em]
      by_cases h1 : a = z
      · rw [if_pos h1, valV_pos (by rw [h1])]; rfl
      · rw [if_neg h1, valV_neg (fun y => h1 (by injection y))]
        by_cases h2 : b = z
        · rw [if_pos h2, valV_pos (by rw [h2])]; rfl
        · rw [if_neg h2, valV_neg (fun y => h2 (by injection y))]
          by_cases h3 : d = z
          · rw [if_pos h3, valV_pos (by rw [h3])]; rfl
          · rw [if_neg h3, valV_neg (fun y => h3 (by injection y)), valV_nil]; rfl
    rw [ev]
    exact k _ H2 _ (e0.trans e2) w2 (.int _) q2
  | _ => cases q2
end

theorem room1 {k : Nat} {A : Around} (r : Room k A) : A.units + 1 < cLine := by have := room64 r; omega
/-! ### a <= b < c -/
def eChain (f f' : D → D → M D) (ma mb mc : En → M D) : En → M D := fun ρ Q => ma ρ fun x => mb ρ fun y => f x y fun z => match z with
  | .bool k => if k = true then mc ρ fun v => f' y v Q else Q z
  | _ => False
section
variable {X : Cx} {aw : Option Addr} {a b c : Expr} {m n l : En → M D} {pos : Pos}
theorem st_chain_le_lt (ha : SE X aw a m) (hb : SE X aw b n) (hc : SE X aw c l) (hm : lastMarks [.LtE, .Lt] [b, c] = false := by with_unfolding_all rfl) : ST X aw (.Compare a [.LtE, .Lt] [b, c] pos) (eT (eChain fLe fLt m n l)) := by
  refine st_of (fun σ H R => ?_) (pt_chain op_le op_lt ha hb hc hm)
  rintro ⟨G, B, ρ, Q, o, hq, k⟩
  refine ⟨G, B, ρ, _, o, hq, fun x H1 dx e1 w1 r1 q1 => ?_⟩
  have o1 := o.grow e1 w1
  refine ⟨G, B, ρ, _, o1, q1, fun y H2 dy e2 w2 r2 q2 => ?_⟩
  have o2 := o1.grow e2 w2
  refine ok_le H2 B x y dx dy _ _ w2 o2.own (r1.ext w1.ne (cut_ext e2)) r2 q2 fun z H3 dz e3 w3 r3 q3 => ?_
  have o3 := o2.grow e3 w3
  cases dz with
  | bool kk =>
    cases r3
    refine ⟨kk, rfl, ?_⟩
    cases kk with
    | false =>
      have q3 : Q (.bool false) := q3
      rw [if_neg (by decide)]
      exact k _ H3 _ ((e1.trans e2).trans e3) w3 (.bl _) q3
    | true =>
      have q3 : l ρ fun v => fLt dy v Q := q3
      rw [if_pos rfl]
      refine ⟨G, B, ρ, _, o3, q3, fun v H4 dv e4 w4 r4 q4 => ?_⟩
      exact ok_lt H4 B y v dy dv _ _ w4 (o3.grow e4 w4).own (r2.ext w2.ne (cut_ext (e3.trans e4))) r4 q4 fun z2 H5 d5 e5 w5 r5 q5 => k z2 H5 d5 ((((e1.trans e2).trans e3).trans e4).trans e5) w5 r5 q5
  | _ => cases q3
end

abbrev c_NOTHING : D := .tuple [.int 0, .int 1]
abbrev c_WHOLE : D := .tuple [.int 1, .int 1]
def F__law_draws : List D → M D := bodyF 8 (sSeq (sOwn 2 aNil) (sSeq (sAsg (eC (.int 7)) (mgName 3)) (sSeq (sFor (itR1 (aCons (eCall fLen (aCons (eVar 0) aNil)) aNil)) (mgName 4) (sSeq (sAsg (eCall fAbs (aCons (eCall fInt (aCons (eOp fIx (eVar 0) (eVar 4)) aNil)) aNil)) (mgName 5)) (sSeq (sAsg (eOp fMod (eCall fInt (aCons (eOp fAdd (eOp fAdd (eOp fMul (eVar 3) (eC (.int 48271))) (eOp fMod (eVar 5) (eC (.int 1000003)))) (eVar 4)) aNil)) (eC (.int 65537))) (mgName 3)) (sSeq (sAsg (eC (.int 0)) (mgName 6)) (sSeq (sIf (eT (eOp fGe (eVar 5) (eOp fPow (eC (.int 10)) (eC (.int 18))))) (sAsg (eVar 5) (mgName 6)) (sSeq (sApp 2 (aCons (eOp fMod (eCall fInt (aCons (eVar 5) aNil)) (eC (.int 997))) aNil)) (sApp 2 (aCons (eOp fMod (eOp fMod (eCall fInt (aCons (eOp fAdd (eOp fMul (eVar 3) (eC (.int 69621))) (eC (.int 5))) aNil)) (eC (.int 65521))) (eC (.int 997))) aNil)))) (sFor (itR1 (aCons (eC (.int 60)) aNil)) (mgName 7) (sIf (eT (eOp fGt (eVar 6) (eC (.int 0)))) (sSeq (sApp 2 (aCons (eOp fMod (eCall fInt (aCons (eVar 6) aNil)) (eC (.int 997))) aNil)) (sAsg (eOp fDiv (eVar 6) (eC (.int 997))) (mgName 6))) sNext))))))) (sSeq (sFor (itR1 (aCons (eVar 1) aNil)) (mgName 4) (sSeq (sAsg (eOp fMod (eCall fInt (aCons (eOp fAdd (eOp fAdd (eOp fMul (eVar 3) (eC (.int 16807))) (eVar 4)) (eC (.int 1))) aNil)) (eC (.int 65537))) (mgName 3)) (sApp 2 (aCons (eOp fMod (eCall fInt (aCons (eVar 3) aNil)) (eC (.int 997))) aNil)))) (sFreeze 2 (sRet (eSl (eVar 2) oNone (oSome (eVar 1)))))))))
def F__law_next : List D → M D := F_next
def F_common : List D → M D := bodyF 2 (sSeq (sWhile (eT (eOp fNe (eVar 1) (eC (.int 0)))) (sPar 0 1 (aCons (eVar 1) (aCons (eOp fMod (eVar 0) (eVar 1)) aNil)))) (sRet (eCall fAbs (aCons (eVar 0) aNil))))
def F_fraction : List D → M D := bodyF 3 (sSeq (sAsg (eCallN 2 F_common (aCons (eVar 0) (aCons (eVar 1) aNil))) (mgName 2)) (sSeq (sIf (eT (eOp fLt (eVar 1) (eC (.int 0)))) (sAsg (eUn fNeg (eVar 2)) (mgName 2)) sNext) (sRet (eTup (aCons (eOp fDiv (eVar 0) (eVar 2)) (aCons (eOp fDiv (eVar 1) (eVar 2)) aNil))))))
def F_minus : List D → M D := bodyF 2 (sRet (eCallN 2 F_fraction (aCons (eOp fSub (eOp fMul (eOp fIx (eVar 0) (eC (.int 0))) (eOp fIx (eVar 1) (eC (.int 1)))) (eOp fMul (eOp fIx (eVar 1) (eC (.int 0))) (eOp fIx (eVar 0) (eC (.int 1))))) (aCons (eOp fMul (eOp fIx (eVar 0) (eC (.int 1))) (eOp fIx (eVar 1) (eC (.int 1)))) aNil))))
def F_sign_of : List D → M D := bodyF 1 (sRet (eOp fSubB (eOp fGt (eVar 0) (eC (.int 0))) (eOp fLt (eVar 0) (eC (.int 0)))))
def F_sign : List D → M D := bodyF 1 (sRet (eCallN 1 F_sign_of (aCons (eOp fIx (eVar 0) (eC (.int 0))) aNil)))
def F_added : List D → M D := bodyF 2 (sRet (eCallN 2 F_fraction (aCons (eOp fAdd (eOp fMul (eOp fIx (eVar 0) (eC (.int 0))) (eOp fIx (eVar 1) (eC (.int 1)))) (eOp fMul (eOp fIx (eVar 1) (eC (.int 0))) (eOp fIx (eVar 0) (eC (.int 1))))) (aCons (eOp fMul (eOp fIx (eVar 0) (eC (.int 1))) (eOp fIx (eVar 1) (eC (.int 1)))) aNil))))
def F_times : List D → M D := bodyF 2 (sRet (eCallN 2 F_fraction (aCons (eOp fMul (eOp fIx (eVar 0) (eC (.int 0))) (eOp fIx (eVar 1) (eC (.int 0)))) (aCons (eOp fMul (eOp fIx (eVar 0) (eC (.int 1))) (eOp fIx (eVar 1) (eC (.int 1)))) aNil))))
def F_square : List D → M D := bodyF 1 (sRet (eTup (aCons (eOp fMul (eOp fIx (eVar 0) (eC (.int 0))) (eOp fIx (eVar 0) (eC (.int 0)))) (aCons (eOp fMul (eOp fIx (eVar 0) (eC (.int 1))) (eOp fIx (eVar 0) (eC (.int 1)))) aNil))))
def FX_circle : List D → M D := bodyF 4 (sSeq (sIf (eT (eOp fLe (eCallN 1 F_sign (aCons (eVar 2) aNil)) (eC (.int 0)))) (sRaise "circle") sNext) (sSeq (sAsg (eCallN 2 F_minus (aCons (eCallN 2 F_added (aCons (eCallN 1 F_square (aCons (eVar 0) aNil)) (aCons (eCallN 1 F_square (aCons (eVar 1) aNil)) aNil))) (aCons (eVar 2) aNil))) (mgName 3)) (sRet (eTup (aCons (eC (.int 1)) (aCons (eCallN 2 F_times (aCons (eTup (aCons (eUn fNeg (eC (.int 2))) (aCons (eC (.int 1)) aNil))) (aCons (eVar 0) aNil))) (aCons (eCallN 2 F_times (aCons (eTup (aCons (eUn fNeg (eC (.int 2))) (aCons (eC (.int 1)) aNil))) (aCons (eVar 1) aNil))) (aCons (eVar 3) aNil))))))))
def F_circle : List D → M D := noX FX_circle
def F_over : List D → M D := bodyF 2 (sRet (eCallN 2 F_fraction (aCons (eOp fMul (eOp fIx (eVar 0) (eC (.int 0))) (eOp fIx (eVar 1) (eC (.int 1)))) (aCons (eOp fMul (eOp fIx (eVar 0) (eC (.int 1))) (eOp fIx (eVar 1) (eC (.int 0)))) aNil))))
def FX_line : List D → M D := bodyF 4 (sSeq (sAsg (eIf (eT (eOp fNe (eVar 0) (eC c_NOTHING))) (eVar 0) (eVar 1)) (mgName 3)) (sSeq (sIf (eT (eOp fEq (eVar 3) (eC c_NOTHING))) (sRaise "line") sNext) (sRet (eTup (aCons (eTup (aCons (eC (.int 0)) (aCons (eCallN 2 F_over (aCons (eVar 0) (aCons (eVar 3) aNil))) (aCons (eCallN 2 F_over (aCons (eVar 1) (aCons (eVar 3) aNil))) (aCons (eCallN 2 F_over (aCons (eVar 2) (aCons (eVar 3) aNil))) aNil))))) (aCons (eOp fLt (eOp fIx (eVar 3) (eC (.int 0))) (eC (.int 0))) aNil))))))
def F_line : List D → M D := noX FX_line
def F__law_curves : List D → M D := bodyF 8 (sSeq (sAsg (eLst aNil) (mgName 2)) (sSeq (sFor (itR1 (aCons (eVar 1) aNil)) (mgName 3) (sSeq (sIf (eT (eOp fEq (eCallN 2 F__law_next (aCons (eVar 0) (aCons (eC (.int 3)) aNil))) (eC (.int 0)))) (sSeq (sPar 4 5 (aCons (eOp fSub (eCallN 2 F__law_next (aCons (eVar 0) (aCons (eC (.int 3)) aNil))) (eC (.int 1))) (aCons (eOp fSub (eCallN 2 F__law_next (aCons (eVar 0) (aCons (eC (.int 3)) aNil))) (eC (.int 1))) aNil))) (sAsg (eIf (eT (eOp fNe (eTup (aCons (eVar 4) (aCons (eVar 5) aNil))) (eTup (aCons (eC (.int 0)) (aCons (eC (.int 0)) aNil))))) (eOp fIx (eCallN 3 F_line (aCons (eTup (aCons (eVar 4) (aCons (eC (.int 1)) aNil))) (aCons (eTup (aCons (eVar 5) (aCons (eC (.int 1)) aNil))) (aCons (eTup (aCons (eOp fSub (eCallN 2 F__law_next (aCons (eVar 0) (aCons (eC (.int 5)) aNil))) (eC (.int 2))) (aCons (eC (.int 1)) aNil))) aNil)))) (eC (.int 0))) (eOp fIx (eCallN 3 F_line (aCons (eTup (aCons (eC (.int 1)) (aCons (eC (.int 1)) aNil))) (aCons (eTup (aCons (eC (.int 0)) (aCons (eC (.int 1)) aNil))) (aCons (eTup (aCons (eOp fSub (eCallN 2 F__law_next (aCons (eVar 0) (aCons (eC (.int 3)) aNil))) (eC (.int 1))) (aCons (eC (.int 1)) aNil))) aNil)))) (eC (.int 0)))) (mgName 6))) (sSeq (sAsg (eOp fIx (eTup (aCons (eTup (aCons (eC (.int 1)) (aCons (eC (.int 1)) aNil))) (aCons (eTup (aCons (eC (.int 2)) (aCons (eC (.int 1)) aNil))) (aCons (eTup (aCons (eC (.int 4)) (aCons (eC (.int 1)) aNil))) (aCons (eTup (aCons (eC (.int 1)) (aCons (eC (.int 4)) aNil))) (aCons (eTup (aCons (eC (.int 5)) (aCons (eC (.int 1)) aNil))) aNil)))))) (eCallN 2 F__law_next (aCons (eVar 0) (aCons (eC (.int 5)) aNil)))) (mgName 7)) (sAsg (eCallN 3 F_circle (aCons (eOp fIx (eTup (aCons (eTup (aCons (eC (.int 0)) (aCons (eC (.int 1)) aNil))) (aCons (eTup (aCons (eC (.int 1)) (aCons (eC (.int 1)) aNil))) (aCons (eTup (aCons (eUn fNeg (eC (.int 1))) (aCons (eC (.int 1)) aNil))) (aCons (eTup (aCons (eC (.int 1)) (aCons (eC (.int 2)) aNil))) (aCons (eTup (aCons (eC (.int 2)) (aCons (eC (.int 1)) aNil))) aNil)))))) (eCallN 2 F__law_next (aCons (eVar 0) (aCons (eC (.int 5)) aNil)))) (aCons (eOp fIx (eTup (aCons (eTup (aCons (eC (.int 0)) (aCons (eC (.int 1)) aNil))) (aCons (eTup (aCons (eC (.int 1)) (aCons (eC (.int 1)) aNil))) (aCons (eTup (aCons (eUn fNeg (eC (.int 1))) (aCons (eC (.int 2)) aNil))) aNil)))) (eCallN 2 F__law_next (aCons (eVar 0) (aCons (eC (.int 3)) aNil)))) (aCons (eVar 7) aNil)))) (mgName 6)))) (sAsg (eOp fCatL (eVar 2) (eIf (eT (eOp fNotIn (eVar 6) (eVar 2))) (eLst (aCons (eVar 6) aNil)) (eLst aNil))) (mgName 2)))) (sRet (eVar 2))))
def FX_circle_through : List D → M D := bodyF 22 (sSeq (sOwn 3 aNil) (sSeq (sFor (itT (eTup (aCons (eVar 0) (aCons (eVar 1) (aCons (eVar 2) aNil))))) (mgTup 2 (mgCons (mgName 4) (mgCons (mgName 5) mgNil))) (sApp 3 (aCons (eTup (aCons (eVar 4) (aCons (eVar 5) (aCons (eCallN 2 F_added (aCons (eCallN 1 F_square (aCons (eVar 4) aNil)) (aCons (eCallN 1 F_square (aCons (eVar 5) aNil)) aNil))) aNil)))) aNil))) (sFreeze 3 (sSeq (sAsg (eVar 3) (mgLst 3 (mgCons (mgTup 3 (mgCons (mgName 4) (mgCons (mgName 5) (mgCons (mgName 6) mgNil)))) (mgCons (mgTup 3 (mgCons (mgName 7) (mgCons (mgName 8) (mgCons (mgName 9) mgNil)))) (mgCons (mgTup 3 (mgCons (mgName 10) (mgCons (mgName 11) (mgCons (mgName 12) mgNil)))) mgNil))))) (sSeq (sPar3 13 14 15 (aCons (eCallN 2 F_minus (aCons (eVar 7) (aCons (eVar 4) aNil))) (aCons (eCallN 2 F_minus (aCons (eVar 8) (aCons (eVar 5) aNil))) (aCons (eCallN 2 F_minus (aCons (eVar 9) (aCons (eVar 6) aNil))) aNil)))) (sSeq (sPar3 16 17 18 (aCons (eCallN 2 F_minus (aCons (eVar 10) (aCons (eVar 4) aNil))) (aCons (eCallN 2 F_minus (aCons (eVar 11) (aCons (eVar 5) aNil))) (aCons (eCallN 2 F_minus (aCons (eVar 12) (aCons (eVar 6) aNil))) aNil)))) (sSeq (sAsg (eCallN 2 F_times (aCons (eTup (aCons (eC (.int 2)) (aCons (eC (.int 1)) aNil))) (aCons (eCallN 2 F_minus (aCons (eCallN 2 F_times (aCons (eVar 13) (aCons (eVar 17) aNil))) (aCons (eCallN 2 F_times (aCons (eVar 14) (aCons (eVar 16) aNil))) aNil))) aNil))) (mgName 19)) (sSeq (sIf (eT (eOp fEq (eVar 19) (eC c_NOTHING))) (sRaise "circle") sNext) (sSeq (sAsg (eCallN 2 F_over (aCons (eCallN 2 F_minus (aCons (eCallN 2 F_times (aCons (eVar 15) (aCons (eVar 17) aNil))) (aCons (eCallN 2 F_times (aCons (eVar 14) (aCons (eVar 18) aNil))) aNil))) (aCons (eVar 19) aNil))) (mgName 20)) (sSeq (sAsg (eCallN 2 F_over (aCons (eCallN 2 F_minus (aCons (eCallN 2 F_times (aCons (eVar 13) (aCons (eVar 18) aNil))) (aCons (eCallN 2 F_times (aCons (eVar 15) (aCons (eVar 16) aNil))) aNil))) (aCons (eVar 19) aNil))) (mgName 21)) (sRet (eCallN 3 FX_circle (aCons (eVar 20) (aCons (eVar 21) (aCons (eCallN 2 F_added (aCons (eCallN 1 F_square (aCons (eCallN 2 F_minus (aCons (eVar 4) (aCons (eVar 20) aNil))) aNil)) (aCons (eCallN 1 F_square (aCons (eCallN 2 F_minus (aCons (eVar 5) (aCons (eVar 21) aNil))) aNil)) aNil))) aNil)))))))))))))))
def F_circle_through : List D → M D := noX FX_circle_through
def F_turned : List D → M D := bodyF 1 (sRet (eTup (aCons (eUn fNeg (eOp fIx (eVar 0) (eC (.int 0)))) (aCons (eOp fIx (eVar 0) (eC (.int 1))) aNil))))
def F_line_through : List D → M D := bodyF 10 (sSeq (sAsg (eTup (aCons (eVar 0) (aCons (eVar 1) aNil))) (mgTup 2 (mgCons (mgTup 2 (mgCons (mgName 2) (mgCons (mgName 3) mgNil))) (mgCons (mgTup 2 (mgCons (mgName 4) (mgCons (mgName 5) mgNil))) mgNil)))) (sSeq (sPar 6 7 (aCons (eCallN 2 F_minus (aCons (eVar 3) (aCons (eVar 5) aNil))) (aCons (eCallN 2 F_minus (aCons (eVar 4) (aCons (eVar 2) aNil))) aNil))) (sSeq (sAsg (eCallN 3 F_line (aCons (eVar 6) (aCons (eVar 7) (aCons (eCallN 1 F_turned (aCons (eCallN 2 F_added (aCons (eCallN 2 F_times (aCons (eVar 6) (aCons (eVar 2) aNil))) (aCons (eCallN 2 F_times (aCons (eVar 7) (aCons (eVar 3) aNil))) aNil))) aNil)) aNil)))) (mgTup 2 (mgCons (mgName 8) (mgCons (mgName 9) mgNil)))) (sRet (eTup (aCons (eVar 8) (aCons (eNot (eVar 9)) aNil)))))))
def F_half : List D → M D := bodyF 1 (sRet (eCallN 2 F_fraction (aCons (eOp fIx (eVar 0) (eC (.int 0))) (aCons (eOp fMul (eC (.int 2)) (eOp fIx (eVar 0) (eC (.int 1)))) aNil))))
def F_middle_of : List D → M D := bodyF 1 (sRet (eTup (aCons (eCallN 1 F_half (aCons (eCallN 1 F_turned (aCons (eOp fIx (eVar 0) (eC (.int 1))) aNil)) aNil)) (aCons (eCallN 1 F_half (aCons (eCallN 1 F_turned (aCons (eOp fIx (eVar 0) (eC (.int 2))) aNil)) aNil)) aNil))))
def F__law_plus : List D → M D := bodyF 2 (sRet (eTup (aCons (eOp fAdd (eOp fMul (eOp fIx (eVar 0) (eC (.int 0))) (eOp fIx (eVar 1) (eC (.int 1)))) (eOp fMul (eOp fIx (eVar 1) (eC (.int 0))) (eOp fIx (eVar 0) (eC (.int 1))))) (aCons (eOp fMul (eOp fIx (eVar 0) (eC (.int 1))) (eOp fIx (eVar 1) (eC (.int 1)))) aNil))))
def F__law_side : List D → M D := bodyF 2 (sSeq (sAsg (eOp fMul (eOp fIx (eVar 0) (eC (.int 0))) (eOp fIx (eVar 0) (eC (.int 1)))) (mgName 1)) (sRet (eOp fSub (eIf (eT (eOp fGt (eVar 1) (eC (.int 0)))) (eC (.int 1)) (eC (.int 0))) (eIf (eT (eOp fLt (eVar 1) (eC (.int 0)))) (eC (.int 1)) (eC (.int 0))))))
def F__law_by : List D → M D := bodyF 2 (sRet (eTup (aCons (eOp fMul (eOp fIx (eVar 0) (eC (.int 0))) (eOp fIx (eVar 1) (eC (.int 0)))) (aCons (eOp fMul (eOp fIx (eVar 0) (eC (.int 1))) (eOp fIx (eVar 1) (eC (.int 1)))) aNil))))
def F__law_rooted : List D → M D := bodyF 6 (sSeq (sPar 3 4 (aCons (eCallN 1 F__law_side (aCons (eVar 0) aNil)) (aCons (eIf (eT (eOp fNe (eOp fIx (eVar 2) (eC (.int 0))) (eC (.int 0)))) (eCallN 1 F__law_side (aCons (eVar 1) aNil)) (eC (.int 0))) aNil))) (sSeq (sIf (mOr (eT (eOp fEq (eVar 3) (eVar 4))) (eT (eOp fEq (eVar 4) (eC (.int 0))))) (sRet (eVar 3)) sNext) (sSeq (sIf (eT (eOp fEq (eVar 3) (eC (.int 0)))) (sRet (eVar 4)) sNext) (sSeq (sAsg (eCallN 2 F__law_plus (aCons (eCallN 2 F__law_by (aCons (eVar 0) (aCons (eVar 0) aNil))) (aCons (eCallN 2 F__law_by (aCons (eTup (aCons (eUn fNeg (eC (.int 1))) (aCons (eC (.int 1)) aNil))) (aCons (eCallN 2 F__law_by (aCons (eCallN 2 F__law_by (aCons (eVar 1) (aCons (eVar 1) aNil))) (aCons (eVar 2) aNil))) aNil))) aNil))) (mgName 5)) (sRet (eOp fMul (eVar 3) (eCallN 1 F__law_side (aCons (eVar 5) aNil))))))))
def F__law_sign : List D → M D := bodyF 17 (sSeq (sAsg (eVar 0) (mgTup 4 (mgCons (mgName 2) (mgCons (mgName 3) (mgCons (mgName 4) (mgCons (mgName 5) mgNil)))))) (sSeq (sAsg (eVar 1) (mgTup 2 (mgCons (mgTup 3 (mgCons (mgName 6) (mgCons (mgName 7) (mgCons (mgName 8) mgNil)))) (mgCons (mgTup 3 (mgCons (mgName 9) (mgCons (mgName 10) (mgCons (mgName 11) mgNil)))) mgNil)))) (sSeq (sAsg (eIf (eT (eOp fNe (eOp fIx (eVar 8) (eC (.int 0))) (eC (.int 0)))) (eVar 8) (eVar 11)) (mgName 12)) (sSeq (sAsg (eCallN 2 F__law_plus (aCons (eCallN 2 F__law_by (aCons (eVar 3) (aCons (eVar 6) aNil))) (aCons (eCallN 2 F__law_plus (aCons (eCallN 2 F__law_by (aCons (eVar 4) (aCons (eVar 9) aNil))) (aCons (eVar 5) aNil))) aNil))) (mgName 13)) (sSeq (sAsg (eCallN 2 F__law_plus (aCons (eCallN 2 F__law_by (aCons (eVar 3) (aCons (eVar 7) aNil))) (aCons (eCallN 2 F__law_by (aCons (eVar 4) (aCons (eVar 10) aNil))) aNil))) (mgName 14)) (sSeq (sIf (eT (eOp fEq (eVar 2) (eC (.int 1)))) (sSeq (sAsg (eCallN 2 F__law_plus (aCons (eCallN 2 F__law_by (aCons (eVar 6) (aCons (eVar 6) aNil))) (aCons (eCallN 2 F__law_by (aCons (eVar 9) (aCons (eVar 9) aNil))) aNil))) (mgName 15)) (sSeq (sAsg (eCallN 2 F__law_by (aCons (eCallN 2 F__law_plus (aCons (eCallN 2 F__law_by (aCons (eVar 7) (aCons (eVar 7) aNil))) (aCons (eCallN 2 F__law_by (aCons (eVar 10) (aCons (eVar 10) aNil))) aNil))) (aCons (eVar 12) aNil))) (mgName 16)) (sSeq (sAsg (eCallN 2 F__law_plus (aCons (eVar 13) (aCons (eCallN 2 F__law_plus (aCons (eVar 15) (aCons (eVar 16) aNil))) aNil))) (mgName 13)) (sAsg (eCallN 2 F__law_plus (aCons (eVar 14) (aCons (eCallN 2 F__law_by (aCons (eTup (aCons (eC (.int 2)) (aCons (eC (.int 1)) aNil))) (aCons (eCallN 2 F__law_plus (aCons (eCallN 2 F__law_by (aCons (eVar 6) (aCons (eVar 7) aNil))) (aCons (eCallN 2 F__law_by (aCons (eVar 9) (aCons (eVar 10) aNil))) aNil))) aNil))) aNil))) (mgName 14))))) sNext) (sRet (eCallN 3 F__law_rooted (aCons (eVar 13) (aCons (eVar 14) (aCons (eVar 12) aNil)))))))))))
def F_radius_of : List D → M D := bodyF 3 (sSeq (sAsg (eCallN 1 F_middle_of (aCons (eVar 0) aNil)) (mgTup 2 (mgCons (mgName 1) (mgCons (mgName 2) mgNil)))) (sRet (eCallN 2 F_minus (aCons (eCallN 2 F_added (aCons (eCallN 1 F_square (aCons (eVar 1) aNil)) (aCons (eCallN 1 F_square (aCons (eVar 2) aNil)) aNil))) (aCons (eOp fIx (eVar 0) (eC (.int 3))) aNil)))))
def F_is_number : List D → M D := bodyF 1 (sRet (eAnd (eUn (fIsi "int") (eVar 0)) (eNot (eUn (fIsi "bool") (eVar 0)))))
def F_is_fraction : List D → M D := bodyF 1 (sSeq (sIf (mOr (mNot (eT (eUn (fIsi "tuple") (eVar 0)))) (mOr (eT (eOp fNe (eCall fLen (aCons (eVar 0) aNil)) (eC (.int 2)))) (mOr (mNot (eT (eCallN 1 F_is_number (aCons (eOp fIx (eVar 0) (eC (.int 0))) aNil)))) (mNot (eT (eCallN 1 F_is_number (aCons (eOp fIx (eVar 0) (eC (.int 1))) aNil))))))) (sRet (eC (.bool false))) sNext) (sRet (eAnd (eOp fGe (eOp fIx (eVar 0) (eC (.int 1))) (eC (.int 1))) (eOp fEq (eCallN 2 F_common (aCons (eOp fIx (eVar 0) (eC (.int 0))) (aCons (eOp fIx (eVar 0) (eC (.int 1))) aNil))) (eC (.int 1))))))
def F_is_curve : List D → M D := bodyF 2 (sSeq (sIf (mOr (mNot (eT (eUn (fIsi "tuple") (eVar 0)))) (mOr (eT (eOp fNe (eCall fLen (aCons (eVar 0) aNil)) (eC (.int 4)))) (mNot (eT (eCall fAll (aCons (eLc (itT (eSl (eVar 0) (oSome (eC (.int 1))) oNone)) [1] (mgName 1) mYes (eCallN 1 F_is_fraction (aCons (eVar 1) aNil))) aNil)))))) (sRet (eC (.bool false))) sNext) (sSeq (sIf (mOr (eT (eUn (fIsi "bool") (eOp fIx (eVar 0) (eC (.int 0))))) (mOr (eT (eOp (fInT true) (eOp fIx (eVar 0) (eC (.int 0))) (eTup (aCons (eC (.int 0)) (aCons (eC (.int 1)) aNil))))) (mNot (eT (eUn (fIsi "int") (eOp fIx (eVar 0) (eC (.int 0)))))))) (sRet (eC (.bool false))) sNext) (sSeq (sIf (eT (eOp fEq (eOp fIx (eVar 0) (eC (.int 0))) (eC (.int 1)))) (sRet (eOp fGt (eCallN 1 F_sign (aCons (eCallN 1 F_radius_of (aCons (eVar 0) aNil)) aNil)) (eC (.int 0)))) sNext) (sRet (eOr (eOp fEq (eOp fIx (eVar 0) (eC (.int 1))) (eTup (aCons (eC (.int 1)) (aCons (eC (.int 1)) aNil)))) (eAnd (eOp fEq (eOp fIx (eVar 0) (eC (.int 1))) (eC c_NOTHING)) (eOp fEq (eOp fIx (eVar 0) (eC (.int 2))) (eTup (aCons (eC (.int 1)) (aCons (eC (.int 1)) aNil))))))))))
def F_plain : List D → M D := bodyF 1 (sRet (eTup (aCons (eVar 0) (aCons (eC c_NOTHING) (aCons (eC c_NOTHING) aNil)))))
def F_point_of : List D → M D := bodyF 2 (sRet (eTup (aCons (eCallN 1 F_plain (aCons (eVar 0) aNil)) (aCons (eCallN 1 F_plain (aCons (eVar 1) aNil)) aNil))))
def F_whole_root : List D → M D := bodyF 4 (sSeq (sPar 1 2 (aCons (eC (.int 0)) (aCons (eOp fAdd (eVar 0) (eC (.int 1))) aNil))) (sSeq (sWhile (eT (eOp fGt (eOp fSub (eVar 2) (eVar 1)) (eC (.int 1)))) (sSeq (sAsg (eOp fDiv (eOp fAdd (eVar 1) (eVar 2)) (eC (.int 2))) (mgName 3)) (sIf (eT (eOp fLe (eOp fMul (eVar 3) (eVar 3)) (eVar 0))) (sAsg (eVar 3) (mgName 1)) (sAsg (eVar 3) (mgName 2))))) (sRet (eIf (eT (eOp fEq (eOp fMul (eVar 1) (eVar 1)) (eVar 0))) (eVar 1) (eC .none)))))
def F_tidy : List D → M D := bodyF 5 (sSeq (sIf (mOr (eT (eOp fEq (eVar 1) (eC c_NOTHING))) (eT (eOp fEq (eVar 2) (eC c_NOTHING)))) (sRet (eCallN 1 F_plain (aCons (eVar 0) aNil))) sNext) (sSeq (sPar 3 4 (aCons (eCallN 1 F_whole_root (aCons (eOp fIx (eVar 2) (eC (.int 0))) aNil)) (aCons (eCallN 1 F_whole_root (aCons (eOp fIx (eVar 2) (eC (.int 1))) aNil)) aNil))) (sSeq (sIf (mAnd (eT (eOp fNotN (eVar 3) (eC .none))) (eT (eOp fNotN (eVar 4) (eC .none)))) (sRet (eCallN 1 F_plain (aCons (eCallN 2 F_added (aCons (eVar 0) (aCons (eCallN 2 F_times (aCons (eVar 1) (aCons (eTup (aCons (eVar 3) (aCons (eVar 4) aNil))) aNil))) aNil))) aNil))) sNext) (sRet (eTup (aCons (eVar 0) (aCons (eVar 1) (aCons (eVar 2) aNil))))))))
def F_turns_of : List D → M D := bodyF 4 (sSeq (sIf (eT (eOp fEq (eOp fIx (eVar 0) (eC (.int 0))) (eC (.int 0)))) (sRet (eLst aNil)) sNext) (sSeq (sAsg (eCallN 1 F_middle_of (aCons (eVar 0) aNil)) (mgTup 2 (mgCons (mgName 1) (mgCons (mgName 2) mgNil)))) (sSeq (sAsg (eCallN 1 F_radius_of (aCons (eVar 0) aNil)) (mgName 3)) (sRet (eLst (aCons (eTup (aCons (eCallN 3 F_tidy (aCons (eVar 1) (aCons (eTup (aCons (eUn fNeg (eC (.int 1))) (aCons (eC (.int 1)) aNil))) (aCons (eVar 3) aNil)))) (aCons (eCallN 1 F_plain (aCons (eVar 2) aNil)) aNil))) (aCons (eTup (aCons (eCallN 3 F_tidy (aCons (eVar 1) (aCons (eTup (aCons (eC (.int 1)) (aCons (eC (.int 1)) aNil))) (aCons (eVar 3) aNil)))) (aCons (eCallN 1 F_plain (aCons (eVar 2) aNil)) aNil))) aNil)))))))
def F_sign_of_root : List D → M D := bodyF 7 (sSeq (sAsg (eVar 0) (mgTup 3 (mgCons (mgName 1) (mgCons (mgName 2) (mgCons (mgName 3) mgNil))))) (sSeq (sPar 4 5 (aCons (eCallN 1 F_sign (aCons (eVar 1) aNil)) (aCons (eIf (eT (eOp fNe (eVar 3) (eC c_NOTHING))) (eCallN 1 F_sign (aCons (eVar 2) aNil)) (eC (.int 0))) aNil))) (sSeq (sIf (mOr (eT (eOp fEq (eVar 4) (eVar 5))) (eT (eOp fEq (eVar 5) (eC (.int 0))))) (sRet (eVar 4)) sNext) (sSeq (sIf (eT (eOp fEq (eVar 4) (eC (.int 0)))) (sRet (eVar 5)) sNext) (sSeq (sAsg (eCallN 1 F_sign (aCons (eCallN 2 F_minus (aCons (eCallN 1 F_square (aCons (eVar 1) aNil)) (aCons (eCallN 2 F_times (aCons (eCallN 1 F_square (aCons (eVar 2) aNil)) (aCons (eVar 3) aNil))) aNil))) aNil)) (mgName 6)) (sRet (eIf (eT (eOp fNe (eVar 6) (eC (.int 0)))) (eOp fMul (eVar 4) (eVar 6)) (eC (.int 0)))))))))
def F_added_root : List D → M D := bodyF 3 (sSeq (sAsg (eIf (eT (eOp fNe (eOp fIx (eVar 0) (eC (.int 1))) (eC c_NOTHING))) (eOp fIx (eVar 0) (eC (.int 2))) (eOp fIx (eVar 1) (eC (.int 2)))) (mgName 2)) (sRet (eCallN 3 F_tidy (aCons (eCallN 2 F_added (aCons (eOp fIx (eVar 0) (eC (.int 0))) (aCons (eOp fIx (eVar 1) (eC (.int 0))) aNil))) (aCons (eCallN 2 F_added (aCons (eOp fIx (eVar 0) (eC (.int 1))) (aCons (eOp fIx (eVar 1) (eC (.int 1))) aNil))) (aCons (eVar 2) aNil))))))
def F_by_fraction : List D → M D := bodyF 2 (sRet (eCallN 3 F_tidy (aCons (eCallN 2 F_times (aCons (eOp fIx (eVar 0) (eC (.int 0))) (aCons (eVar 1) aNil))) (aCons (eCallN 2 F_times (aCons (eOp fIx (eVar 0) (eC (.int 1))) (aCons (eVar 1) aNil))) (aCons (eOp fIx (eVar 0) (eC (.int 2))) aNil)))))
def F_times_root : List D → M D := bodyF 4 (sSeq (sAsg (eIf (eT (eOp fNe (eOp fIx (eVar 0) (eC (.int 1))) (eC c_NOTHING))) (eOp fIx (eVar 0) (eC (.int 2))) (eOp fIx (eVar 1) (eC (.int 2)))) (mgName 2)) (sSeq (sAsg (eCallN 2 F_added (aCons (eCallN 2 F_times (aCons (eOp fIx (eVar 0) (eC (.int 0))) (aCons (eOp fIx (eVar 1) (eC (.int 0))) aNil))) (aCons (eCallN 2 F_times (aCons (eCallN 2 F_times (aCons (eOp fIx (eVar 0) (eC (.int 1))) (aCons (eOp fIx (eVar 1) (eC (.int 1))) aNil))) (aCons (eVar 2) aNil))) aNil))) (mgName 3)) (sRet (eCallN 3 F_tidy (aCons (eVar 3) (aCons (eCallN 2 F_added (aCons (eCallN 2 F_times (aCons (eOp fIx (eVar 0) (eC (.int 0))) (aCons (eOp fIx (eVar 1) (eC (.int 1))) aNil))) (aCons (eCallN 2 F_times (aCons (eOp fIx (eVar 0) (eC (.int 1))) (aCons (eOp fIx (eVar 1) (eC (.int 0))) aNil))) aNil))) (aCons (eVar 2) aNil)))))))
def F_value_at : List D → M D := bodyF 5 (sSeq (sAsg (eVar 1) (mgTup 2 (mgCons (mgName 2) (mgCons (mgName 3) mgNil)))) (sSeq (sAsg (eCallN 2 F_added_root (aCons (eCallN 2 F_by_fraction (aCons (eVar 2) (aCons (eOp fIx (eVar 0) (eC (.int 1))) aNil))) (aCons (eCallN 2 F_by_fraction (aCons (eVar 3) (aCons (eOp fIx (eVar 0) (eC (.int 2))) aNil))) aNil))) (mgName 4)) (sSeq (sAsg (eCallN 2 F_added_root (aCons (eVar 4) (aCons (eCallN 1 F_plain (aCons (eOp fIx (eVar 0) (eC (.int 3))) aNil)) aNil))) (mgName 4)) (sSeq (sIf (eT (eOp fEq (eOp fIx (eVar 0) (eC (.int 0))) (eC (.int 1)))) (sAsg (eCallN 2 F_added_root (aCons (eVar 4) (aCons (eCallN 2 F_added_root (aCons (eCallN 2 F_times_root (aCons (eVar 2) (aCons (eVar 2) aNil))) (aCons (eCallN 2 F_times_root (aCons (eVar 3) (aCons (eVar 3) aNil))) aNil))) aNil))) (mgName 4)) sNext) (sRet (eVar 4))))))
def F_sign_at : List D → M D := bodyF 2 (sRet (eCallN 1 F_sign_of_root (aCons (eCallN 2 F_value_at (aCons (eVar 0) (aCons (eVar 1) aNil))) aNil)))
def F__law_made : List D → M D := bodyF 21 (sSeq (sFor (itL (eVar 1)) (mgName 2) (sSeq (sIf (mOr (eT (eOp fNotB (eCallN 1 F_is_curve (aCons (eVar 2) aNil)) (eC (.bool true)))) (mOr (eT (eOp fNe (eCall fLen (aCons (eCallN 1 F_turns_of (aCons (eVar 2) aNil)) aNil)) (eOp fMul (eC (.int 2)) (eOp fIx (eVar 2) (eC (.int 0)))))) (eT (eOp fNe (eLc (itL (eCallN 1 F_turns_of (aCons (eVar 2) aNil))) [20] (mgName 20) (eT (eOp fNe (eCallN 2 F__law_sign (aCons (eVar 2) (aCons (eVar 20) aNil))) (eC (.int 0)))) (eVar 20)) (eLst aNil))))) (sRet (eC (.bool false))) sNext) (sIf (eT (eOp fEq (eOp fIx (eVar 2) (eC (.int 0))) (eC (.int 1)))) (sSeq (sAsg (eCallN 1 F_middle_of (aCons (eVar 2) aNil)) (mgTup 2 (mgCons (mgName 3) (mgCons (mgName 4) mgNil)))) (sIf (mOr (eT (eOp fNe (eCallN 3 F_circle (aCons (eVar 3) (aCons (eVar 4) (aCons (eCallN 1 F_radius_of (aCons (eVar 2) aNil)) aNil)))) (eVar 2))) (eT (eOp fNe (eCallN 2 F_sign_at (aCons (eVar 2) (aCons (eCallN 2 F_point_of (aCons (eVar 3) (aCons (eVar 4) aNil))) aNil))) (eUn fNeg (eC (.int 1)))))) (sRet (eC (.bool false))) sNext)) sNext))) (sSeq (sAsg (eLc (itR1 (aCons (eC (.int 3)) aNil)) [17] (mgName 17) mYes (eTup (aCons (eTup (aCons (eOp fSub (eCallN 2 F__law_next (aCons (eVar 0) (aCons (eC (.int 7)) aNil))) (eC (.int 3))) (aCons (eC (.int 1)) aNil))) (aCons (eTup (aCons (eOp fSub (eCallN 2 F__law_next (aCons (eVar 0) (aCons (eC (.int 7)) aNil))) (eC (.int 3))) (aCons (eC (.int 1)) aNil))) aNil)))) (mgName 5)) (sSeq (sTryH 7 (eCallN 3 FX_circle_through (aCons (eOp fIx (eVar 5) (eC (.int 0))) (aCons (eOp fIx (eVar 5) (eC (.int 1))) (aCons (eOp fIx (eVar 5) (eC (.int 2))) aNil)))) (mgName 6) (sIf (eT (eOp fNe (eLc (itL (eVar 5)) [3, 4] (mgTup 2 (mgCons (mgName 3) (mgCons (mgName 4) mgNil))) (eT (eOp fNe (eCallN 2 F__law_sign (aCons (eVar 6) (aCons (eCallN 2 F_point_of (aCons (eVar 3) (aCons (eVar 4) aNil))) aNil))) (eC (.int 0)))) (eVar 3)) (eLst aNil))) (sRet (eC (.bool false))) sNext) (sAsg (eLc (itL (eVar 5)) [18] (mgName 18) mYes (eTup (aCons (eOp fIx (eOp fIx (eVar 18) (eC (.int 0))) (eC (.int 0))) (aCons (eOp fIx (eOp fIx (eVar 18) (eC (.int 1))) (eC (.int 0))) aNil)))) (mgLst 3 (mgCons (mgTup 2 (mgCons (mgName 3) (mgCons (mgName 4) mgNil))) (mgCons (mgTup 2 (mgCons (mgName 8) (mgCons (mgName 9) mgNil))) (mgCons (mgTup 2 (mgCons (mgName 10) (mgCons (mgName 11) mgNil))) mgNil))))) "circle" (eT (eOp fNe (eOp fMul (eOp fSub (eVar 8) (eVar 3)) (eOp fSub (eVar 11) (eVar 4))) (eOp fMul (eOp fSub (eVar 9) (eVar 4)) (eOp fSub (eVar 10) (eVar 3))))) (sRet (eC (.bool false)))) (sSeq (sIf (eT (eOp fNe (eOp fIx (eVar 5) (eC (.int 0))) (eOp fIx (eVar 5) (eC (.int 1))))) (sSeq (sAsg (eCallN 2 F_line_through (aCons (eOp fIx (eVar 5) (eC (.int 0))) (aCons (eOp fIx (eVar 5) (eC (.int 1))) aNil))) (mgTup 2 (mgCons (mgName 12) (mgCons (mgName 13) mgNil)))) (sSeq (sAsg (eLc (itL (eVar 5)) [18] (mgName 18) mYes (eTup (aCons (eOp fIx (eOp fIx (eVar 18) (eC (.int 0))) (eC (.int 0))) (aCons (eOp fIx (eOp fIx (eVar 18) (eC (.int 1))) (eC (.int 0))) aNil)))) (mgLst 3 (mgCons (mgTup 2 (mgCons (mgName 3) (mgCons (mgName 4) mgNil))) (mgCons (mgTup 2 (mgCons (mgName 8) (mgCons (mgName 9) mgNil))) (mgCons (mgTup 2 (mgCons (mgName 10) (mgCons (mgName 11) mgNil))) mgNil))))) (sSeq (sAsg (eOp fSub (eOp fMul (eOp fSub (eVar 8) (eVar 3)) (eOp fSub (eVar 11) (eVar 4))) (eOp fMul (eOp fSub (eVar 9) (eVar 4)) (eOp fSub (eVar 10) (eVar 3)))) (mgName 14)) (sSeq (sAsg (eOp fMul (eCallN 2 F__law_sign (aCons (eVar 12) (aCons (eCallN 2 F_point_of (aCons (eOp fIx (eOp fIx (eVar 5) (eC (.int 2))) (eC (.int 0))) (aCons (eOp fIx (eOp fIx (eVar 5) (eC (.int 2))) (eC (.int 1))) aNil))) aNil))) (eIf (eT (eVar 13)) (eC (.int 1)) (eUn fNeg (eC (.int 1))))) (mgName 15)) (sIf (mOr (eT (eOp fNe (eLc (itL (eSl (eVar 5) oNone (oSome (eC (.int 2))))) [3, 4] (mgTup 2 (mgCons (mgName 3) (mgCons (mgName 4) mgNil))) (eT (eOp fNe (eCallN 2 F__law_sign (aCons (eVar 12) (aCons (eCallN 2 F_point_of (aCons (eVar 3) (aCons (eVar 4) aNil))) aNil))) (eC (.int 0)))) (eVar 3)) (eLst aNil))) (eT (eOp fNe (eVar 15) (eOp fSub (eIf (eT (eOp fGt (eVar 14) (eC (.int 0)))) (eC (.int 1)) (eC (.int 0))) (eIf (eT (eOp fLt (eVar 14) (eC (.int 0)))) (eC (.int 1)) (eC (.int 0))))))) (sRet (eC (.bool false))) sNext))))) sNext) (sSeq (sAsg (eLst (aCons (eTup (aCons (eC (.int 0)) (aCons (eTup (aCons (eC (.int 2)) (aCons (eC (.int 1)) aNil))) (aCons (eTup (aCons (eC (.int 1)) (aCons (eC (.int 1)) aNil))) (aCons (eTup (aCons (eC (.int 0)) (aCons (eC (.int 1)) aNil))) aNil))))) (aCons (eTup (aCons (eC (.int 0)) (aCons (eTup (aCons (eC (.int 0)) (aCons (eC (.int 1)) aNil))) (aCons (eTup (aCons (eC (.int 0)) (aCons (eC (.int 1)) aNil))) (aCons (eTup (aCons (eC (.int 1)) (aCons (eC (.int 1)) aNil))) aNil))))) (aCons (eTup (aCons (eC (.int 1)) (aCons (eTup (aCons (eC (.int 0)) (aCons (eC (.int 1)) aNil))) (aCons (eTup (aCons (eC (.int 0)) (aCons (eC (.int 1)) aNil))) (aCons (eTup (aCons (eC (.int 1)) (aCons (eC (.int 1)) aNil))) aNil))))) (aCons (eTup (aCons (eC (.int 2)) (aCons (eTup (aCons (eC (.int 1)) (aCons (eC (.int 1)) aNil))) (aCons (eTup (aCons (eC (.int 1)) (aCons (eC (.int 1)) aNil))) (aCons (eTup (aCons (eC (.int 0)) (aCons (eC (.int 1)) aNil))) aNil))))) (aCons (eC .none) (aCons (eTup (aCons (eC (.bool true)) (aCons (eTup (aCons (eC (.int 1)) (aCons (eC (.int 1)) aNil))) (aCons (eTup (aCons (eC (.int 0)) (aCons (eC (.int 1)) aNil))) (aCons (eTup (aCons (eC (.int 0)) (aCons (eC (.int 1)) aNil))) aNil))))) aNil))))))) (mgName 16)) (sRet (eOp fEq (eLc (itL (eVar 16)) [19] (mgName 19) (eT (eOp fNotB (eCallN 1 F_is_curve (aCons (eVar 19) aNil)) (eC (.bool false)))) (eVar 19)) (eLst aNil))))))))
def F__law_least : List D → M D := bodyF 5 (sSeq (sOwn 1 aNil) (sSeq (sFor (itT (eVar 0)) (mgName 2) (sSeq (sAsg (eOp fIx (eVar 2) (eC (.int 0))) (mgTup 2 (mgCons (mgName 3) (mgCons (mgName 4) mgNil)))) (sApp 1 (aCons (eTup (aCons (eIf (mAnd (eT (eOp fEq (eOp fMul (eOp fDiv (eVar 3) (eC (.int 2))) (eC (.int 2))) (eVar 3))) (eT (eOp fEq (eVar 4) (eC (.int 2))))) (eTup (aCons (eOp fDiv (eVar 3) (eC (.int 2))) (aCons (eC (.int 1)) aNil))) (eTup (aCons (eVar 3) (aCons (eVar 4) aNil)))) (aCons (eTup (aCons (eC (.int 0)) (aCons (eC (.int 1)) aNil))) (aCons (eTup (aCons (eC (.int 0)) (aCons (eC (.int 1)) aNil))) aNil)))) aNil)))) (sFreeze 1 (sRet (eTup (aCons (eOp fIx (eVar 1) (eC (.int 0))) (aCons (eOp fIx (eVar 1) (eC (.int 1))) aNil)))))))
def F_is_less : List D → M D := bodyF 2 (sRet (eOp fLt (eOp fMul (eOp fIx (eVar 0) (eC (.int 0))) (eOp fIx (eVar 1) (eC (.int 1)))) (eOp fMul (eOp fIx (eVar 1) (eC (.int 0))) (eOp fIx (eVar 0) (eC (.int 1))))))
def F_middle : List D → M D := bodyF 2 (sRet (eCallN 1 F_half (aCons (eCallN 2 F_added (aCons (eVar 0) (aCons (eVar 1) aNil))) aNil)))
def F_sum_of : List D → M D := bodyF 3 (sSeq (sAsg (eC c_NOTHING) (mgName 1)) (sSeq (sFor (itL (eVar 0)) (mgName 2) (sAsg (eCallN 2 F_added (aCons (eVar 1) (aCons (eVar 2) aNil))) (mgName 1))) (sRet (eVar 1))))
def F_whole : List D → M D := bodyF 1 (sRet (eTup (aCons (eVar 0) (aCons (eC (.int 1)) aNil))))
def F_floor : List D → M D := bodyF 1 (sRet (eOp fDiv (eOp fIx (eVar 0) (eC (.int 0))) (eOp fIx (eVar 0) (eC (.int 1)))))
def F__law_same : List D → M D := bodyF 2 (sRet (eOp fEq (eOp fMul (eOp fIx (eVar 0) (eC (.int 0))) (eOp fIx (eVar 1) (eC (.int 1)))) (eOp fMul (eOp fIx (eVar 1) (eC (.int 0))) (eOp fIx (eVar 0) (eC (.int 1))))))
def F__law_fractions : List D → M D := bodyF 10 (sSeq (sPar 1 2 (aCons (eTup (aCons (eOp fSub (eCallN 2 F__law_next (aCons (eVar 0) (aCons (eC (.int 13)) aNil))) (eC (.int 6))) (aCons (eOp fAdd (eC (.int 1)) (eCallN 2 F__law_next (aCons (eVar 0) (aCons (eC (.int 5)) aNil)))) aNil))) (aCons (eTup (aCons (eOp fSub (eCallN 2 F__law_next (aCons (eVar 0) (aCons (eC (.int 13)) aNil))) (eC (.int 6))) (aCons (eOp fAdd (eC (.int 1)) (eCallN 2 F__law_next (aCons (eVar 0) (aCons (eC (.int 5)) aNil)))) aNil))) aNil))) (sSeq (sPar 3 4 (aCons (eCallN 2 F_fraction (aCons (eOp fIx (eVar 1) (eC (.int 0))) (aCons (eOp fIx (eVar 1) (eC (.int 1))) aNil))) (aCons (eCallN 2 F_fraction (aCons (eOp fIx (eVar 2) (eC (.int 0))) (aCons (eOp fIx (eVar 2) (eC (.int 1))) aNil))) aNil))) (sSeq (sAsg (eCallN 2 F__law_by (aCons (eTup (aCons (eUn fNeg (eC (.int 1))) (aCons (eC (.int 1)) aNil))) (aCons (eVar 2) aNil))) (mgName 5)) (sSeq (sOwn 6 (aCons (eTup (aCons (eCallN 2 F_added (aCons (eVar 3) (aCons (eVar 4) aNil))) (aCons (eCallN 2 F__law_plus (aCons (eVar 1) (aCons (eVar 2) aNil))) aNil))) (aCons (eTup (aCons (eCallN 2 F_minus (aCons (eVar 3) (aCons (eVar 4) aNil))) (aCons (eCallN 2 F__law_plus (aCons (eVar 1) (aCons (eVar 5) aNil))) aNil))) (aCons (eTup (aCons (eCallN 2 F_times (aCons (eVar 3) (aCons (eVar 4) aNil))) (aCons (eCallN 2 F__law_by (aCons (eVar 1) (aCons (eVar 2) aNil))) aNil))) (aCons (eTup (aCons (eCallN 1 F_square (aCons (eVar 3) aNil)) (aCons (eCallN 2 F__law_by (aCons (eVar 1) (aCons (eVar 1) aNil))) aNil))) (aCons (eTup (aCons (eCallN 1 F_half (aCons (eVar 3) aNil)) (aCons (eCallN 2 F__law_by (aCons (eVar 1) (aCons (eTup (aCons (eC (.int 1)) (aCons (eC (.int 2)) aNil))) aNil))) aNil))) aNil)))))) (sSeq (sCatO 6 (eLst (aCons (eTup (aCons (eCallN 1 F_turned (aCons (eVar 3) aNil)) (aCons (eTup (aCons (eOp fSub (eC (.int 0)) (eOp fIx (eVar 1) (eC (.int 0)))) (aCons (eOp fIx (eVar 1) (eC (.int 1))) aNil))) aNil))) (aCons (eTup (aCons (eCallN 2 F_middle (aCons (eVar 3) (aCons (eVar 4) aNil))) (aCons (eCallN 2 F__law_by (aCons (eCallN 2 F__law_plus (aCons (eVar 1) (aCons (eVar 2) aNil))) (aCons (eTup (aCons (eC (.int 1)) (aCons (eC (.int 2)) aNil))) aNil))) aNil))) (aCons (eTup (aCons (eCallN 1 F_sum_of (aCons (eLst (aCons (eVar 3) (aCons (eVar 4) (aCons (eVar 3) aNil)))) aNil)) (aCons (eCallN 2 F__law_plus (aCons (eCallN 2 F__law_plus (aCons (eVar 1) (aCons (eVar 2) aNil))) (aCons (eVar 1) aNil))) aNil))) (aCons (eTup (aCons (eCallN 1 F_whole (aCons (eC (.int 4)) aNil)) (aCons (eTup (aCons (eC (.int 4)) (aCons (eC (.int 1)) aNil))) aNil))) aNil)))))) (sSeq (sIf (eT (eOp fNe (eOp fIx (eVar 2) (eC (.int 0))) (eC (.int 0)))) (sApp 6 (aCons (eTup (aCons (eCallN 2 F_over (aCons (eVar 3) (aCons (eVar 4) aNil))) (aCons (eTup (aCons (eOp fMul (eOp fIx (eVar 1) (eC (.int 0))) (eOp fIx (eVar 2) (eC (.int 1)))) (aCons (eOp fMul (eOp fIx (eVar 1) (eC (.int 1))) (eOp fIx (eVar 2) (eC (.int 0)))) aNil))) aNil))) aNil)) sNext) (sSeq (sIf (eT (eOp fNe (eLc (itO 6) [7, 8] (mgTup 2 (mgCons (mgName 7) (mgCons (mgName 8) mgNil))) (mOr (eT (eOp fNotB (eCallN 1 F_is_fraction (aCons (eVar 7) aNil)) (eC (.bool true)))) (mNot (eT (eCallN 2 F__law_same (aCons (eVar 7) (aCons (eVar 8) aNil)))))) (eVar 7)) (eLst aNil))) (sRet (eC (.bool false))) sNext) (sSeq (sIf (mOr (eT (eOp fNe (eCallN 1 F_sign (aCons (eVar 3) aNil)) (eCallN 1 F__law_side (aCons (eVar 1) aNil)))) (mOr (eT (eOp fNe (eCallN 2 F_is_less (aCons (eVar 3) (aCons (eVar 4) aNil))) (eOp fLt (eCallN 1 F__law_side (aCons (eCallN 2 F__law_plus (aCons (eVar 1) (aCons (eVar 5) aNil))) aNil)) (eC (.int 0))))) (mNot (eT (eChain fLe fLt (eOp fMul (eCallN 1 F_floor (aCons (eVar 3) aNil)) (eOp fIx (eVar 1) (eC (.int 1)))) (eOp fIx (eVar 1) (eC (.int 0))) (eOp fMul (eOp fAdd (eCallN 1 F_floor (aCons (eVar 3) aNil)) (eC (.int 1))) (eOp fIx (eVar 1) (eC (.int 1))))))))) (sRet (eC (.bool false))) sNext) (sRet (eOp fEq (eLc (itT (eTup (aCons (eTup (aCons (eC (.int 2)) (aCons (eC (.int 4)) aNil))) (aCons (eTup (aCons (eC (.int 1)) (aCons (eC (.int 0)) aNil))) (aCons (eTup (aCons (eC (.int 1)) (aCons (eUn fNeg (eC (.int 1))) aNil))) (aCons (eLst (aCons (eC (.int 1)) (aCons (eC (.int 2)) aNil))) (aCons (eC .none) (aCons (eTup (aCons (eC (.bool true)) (aCons (eC (.int 1)) aNil))) (aCons (eTup (aCons (eC (.int 1)) aNil)) aNil))))))))) [9] (mgName 9) (eT (eOp fNotB (eCallN 1 F_is_fraction (aCons (eVar 9) aNil)) (eC (.bool false)))) (eVar 9)) (eLst aNil)))))))))))
def F_sign_of_two : List D → M D := bodyF 8 (sSeq (sIf (mOr (eT (eOp fEq (eVar 3) (eC c_NOTHING))) (eT (eOp fEq (eVar 4) (eC c_NOTHING)))) (sRet (eCallN 1 F_sign_of_root (aCons (eTup (aCons (eVar 0) (aCons (eVar 1) (aCons (eVar 2) aNil)))) aNil))) sNext) (sSeq (sAsg (eCallN 1 F_sign_of_root (aCons (eTup (aCons (eVar 0) (aCons (eVar 1) (aCons (eVar 2) aNil)))) aNil)) (mgName 5)) (sSeq (sAsg (eCallN 1 F_sign (aCons (eVar 3) aNil)) (mgName 6)) (sSeq (sIf (mOr (eT (eOp fEq (eVar 5) (eC (.int 0)))) (eT (eOp fEq (eVar 5) (eVar 6)))) (sRet (eVar 6)) sNext) (sSeq (sAsg (eTup (aCons (eCallN 2 F_minus (aCons (eCallN 1 F_sum_of (aCons (eLst (aCons (eCallN 1 F_square (aCons (eVar 0) aNil)) (aCons (eCallN 2 F_times (aCons (eCallN 1 F_square (aCons (eVar 1) aNil)) (aCons (eVar 2) aNil))) aNil))) aNil)) (aCons (eCallN 2 F_times (aCons (eCallN 1 F_square (aCons (eVar 3) aNil)) (aCons (eVar 4) aNil))) aNil))) (aCons (eCallN 2 F_times (aCons (eTup (aCons (eC (.int 2)) (aCons (eC (.int 1)) aNil))) (aCons (eCallN 2 F_times (aCons (eVar 0) (aCons (eVar 1) aNil))) aNil))) (aCons (eVar 2) aNil)))) (mgName 7)) (sRet (eOp fMul (eVar 5) (eCallN 1 F_sign_of_root (aCons (eVar 7) aNil)))))))))
def F_compare : List D → M D := bodyF 8 (sSeq (sAsg (eVar 0) (mgTup 3 (mgCons (mgName 2) (mgCons (mgName 3) (mgCons (mgName 4) mgNil))))) (sSeq (sAsg (eVar 1) (mgTup 3 (mgCons (mgName 5) (mgCons (mgName 6) (mgCons (mgName 7) mgNil))))) (sRet (eCallN 5 F_sign_of_two (aCons (eCallN 2 F_minus (aCons (eVar 2) (aCons (eVar 5) aNil))) (aCons (eVar 3) (aCons (eVar 4) (aCons (eCallN 1 F_turned (aCons (eVar 6) aNil)) (aCons (eVar 7) aNil)))))))))
def F_sorted_roots : List D → M D := bodyF 5 (sSeq (sOwn 1 aNil) (sSeq (sFor (itL (eVar 0)) (mgName 2) (sSeq (sAsg (eCall fLen (aCons (eLc (itO 1) [4] (mgName 4) (eT (eOp fLe (eCallN 2 F_compare (aCons (eVar 4) (aCons (eVar 2) aNil))) (eC (.int 0)))) (eVar 4)) aNil)) (mgName 3)) (sIns 1 (aCons (eVar 3) (aCons (eVar 2) aNil))))) (sFreeze 1 (sRet (eCall fTuple (aCons (eVar 1) aNil))))))
def F_turned_root : List D → M D := bodyF 1 (sRet (eTup (aCons (eCallN 1 F_turned (aCons (eOp fIx (eVar 0) (eC (.int 0))) aNil)) (aCons (eCallN 1 F_turned (aCons (eOp fIx (eVar 0) (eC (.int 1))) aNil)) (aCons (eOp fIx (eVar 0) (eC (.int 2))) aNil)))))
def F_minus_root : List D → M D := bodyF 2 (sRet (eCallN 2 F_added_root (aCons (eVar 0) (aCons (eCallN 1 F_turned_root (aCons (eVar 1) aNil)) aNil))))
def F_over_root : List D → M D := bodyF 7 (sSeq (sAsg (eVar 1) (mgTup 3 (mgCons (mgName 2) (mgCons (mgName 3) (mgCons (mgName 4) mgNil))))) (sSeq (sAsg (eCallN 2 F_minus (aCons (eCallN 1 F_square (aCons (eVar 2) aNil)) (aCons (eCallN 2 F_times (aCons (eCallN 1 F_square (aCons (eVar 3) aNil)) (aCons (eVar 4) aNil))) aNil))) (mgName 5)) (sSeq (sAsg (eCallN 3 F_tidy (aCons (eCallN 2 F_over (aCons (eVar 2) (aCons (eVar 5) aNil))) (aCons (eCallN 1 F_turned (aCons (eCallN 2 F_over (aCons (eVar 3) (aCons (eVar 5) aNil))) aNil)) (aCons (eVar 4) aNil)))) (mgName 6)) (sRet (eCallN 2 F_times_root (aCons (eVar 0) (aCons (eVar 6) aNil)))))))
def F_root_of : List D → M D := bodyF 1 (sRet (eCallN 3 F_tidy (aCons (eC c_NOTHING) (aCons (eC c_WHOLE) (aCons (eVar 0) aNil)))))
def F_is_root : List D → M D := bodyF 2 (sSeq (sIf (mOr (mNot (eT (eUn (fIsi "tuple") (eVar 0)))) (mOr (eT (eOp fNe (eCall fLen (aCons (eVar 0) aNil)) (eC (.int 3)))) (mNot (eT (eCall fAll (aCons (eLc (itT (eVar 0)) [1] (mgName 1) mYes (eCallN 1 F_is_fraction (aCons (eVar 1) aNil))) aNil)))))) (sRet (eC (.bool false))) sNext) (sRet (eAnd (eOp fGe (eOp fIx (eOp fIx (eVar 0) (eC (.int 2))) (eC (.int 0))) (eC (.int 0))) (eOp fEq (eOp fNe (eOp fIx (eVar 0) (eC (.int 1))) (eC c_NOTHING)) (eOp fNe (eOp fIx (eVar 0) (eC (.int 2))) (eC c_NOTHING))))))
def F__law_sums : List D → M D := bodyF 15 (sSeq (sAsg (eOp fIx (eTup (aCons (eTup (aCons (eC (.int 2)) (aCons (eC (.int 1)) aNil))) (aCons (eTup (aCons (eC (.int 3)) (aCons (eC (.int 1)) aNil))) (aCons (eTup (aCons (eC (.int 1)) (aCons (eC (.int 2)) aNil))) aNil)))) (eCallN 2 F__law_next (aCons (eVar 0) (aCons (eC (.int 3)) aNil)))) (mgName 1)) (sSeq (sAsg (eLc (itR1 (aCons (eC (.int 4)) aNil)) [13] (mgName 13) mYes (eCallN 2 F_fraction (aCons (eOp fSub (eCallN 2 F__law_next (aCons (eVar 0) (aCons (eC (.int 9)) aNil))) (eC (.int 4))) (aCons (eOp fAdd (eC (.int 1)) (eCallN 2 F__law_next (aCons (eVar 0) (aCons (eC (.int 3)) aNil)))) aNil)))) (mgLst 4 (mgCons (mgName 2) (mgCons (mgName 3) (mgCons (mgName 4) (mgCons (mgName 5) mgNil)))))) (sSeq (sPar 6 7 (aCons (eCallN 3 F_tidy (aCons (eVar 2) (aCons (eVar 3) (aCons (eVar 1) aNil)))) (aCons (eCallN 3 F_tidy (aCons (eVar 4) (aCons (eVar 5) (aCons (eVar 1) aNil)))) aNil))) (sSeq (sOwn 8 (aCons (eTup (aCons (eCallN 2 F_added_root (aCons (eVar 6) (aCons (eVar 7) aNil))) (aCons (eCallN 2 F__law_plus (aCons (eVar 2) (aCons (eVar 4) aNil))) (aCons (eCallN 2 F__law_plus (aCons (eVar 3) (aCons (eVar 5) aNil))) aNil)))) (aCons (eTup (aCons (eCallN 2 F_minus_root (aCons (eVar 6) (aCons (eVar 7) aNil))) (aCons (eCallN 2 F__law_plus (aCons (eVar 2) (aCons (eCallN 2 F__law_by (aCons (eTup (aCons (eUn fNeg (eC (.int 1))) (aCons (eC (.int 1)) aNil))) (aCons (eVar 4) aNil))) aNil))) (aCons (eCallN 2 F__law_plus (aCons (eVar 3) (aCons (eCallN 2 F__law_by (aCons (eTup (aCons (eUn fNeg (eC (.int 1))) (aCons (eC (.int 1)) aNil))) (aCons (eVar 5) aNil))) aNil))) aNil)))) aNil))) (sSeq (sApp 8 (aCons (eTup (aCons (eCallN 2 F_times_root (aCons (eVar 6) (aCons (eVar 7) aNil))) (aCons (eCallN 2 F__law_plus (aCons (eCallN 2 F__law_by (aCons (eVar 2) (aCons (eVar 4) aNil))) (aCons (eCallN 2 F__law_by (aCons (eCallN 2 F__law_by (aCons (eVar 3) (aCons (eVar 5) aNil))) (aCons (eVar 1) aNil))) aNil))) (aCons (eCallN 2 F__law_plus (aCons (eCallN 2 F__law_by (aCons (eVar 2) (aCons (eVar 5) aNil))) (aCons (eCallN 2 F__law_by (aCons (eVar 3) (aCons (eVar 4) aNil))) aNil))) aNil)))) aNil)) (sSeq (sApp 8 (aCons (eTup (aCons (eCallN 2 F_by_fraction (aCons (eVar 6) (aCons (eTup (aCons (eC (.int 2)) (aCons (eC (.int 3)) aNil))) aNil))) (aCons (eCallN 2 F__law_by (aCons (eVar 2) (aCons (eTup (aCons (eC (.int 2)) (aCons (eC (.int 3)) aNil))) aNil))) (aCons (eCallN 2 F__law_by (aCons (eVar 3) (aCons (eTup (aCons (eC (.int 2)) (aCons (eC (.int 3)) aNil))) aNil))) aNil)))) aNil)) (sSeq (sIf (mOr (eT (eOp fNe (eOp fIx (eVar 7) (eC (.int 0))) (eTup (aCons (eC (.int 0)) (aCons (eC (.int 1)) aNil))))) (eT (eOp fNe (eOp fIx (eVar 7) (eC (.int 1))) (eTup (aCons (eC (.int 0)) (aCons (eC (.int 1)) aNil)))))) (sSeq (sAsg (eCallN 2 F_times_root (aCons (eCallN 2 F_over_root (aCons (eVar 6) (aCons (eVar 7) aNil))) (aCons (eVar 7) aNil))) (mgName 9)) (sApp 8 (aCons (eTup (aCons (eVar 9) (aCons (eVar 2) (aCons (eVar 3) aNil)))) aNil))) sNext) (sFreeze 8 (sSeq (sFor (itL (eVar 8)) (mgTup 3 (mgCons (mgName 10) (mgCons (mgName 11) (mgCons (mgName 12) mgNil)))) (sIf (mOr (eT (eOp fNotB (eCallN 1 F_is_root (aCons (eVar 10) aNil)) (eC (.bool true)))) (mOr (mNot (eT (eCallN 2 F__law_same (aCons (eOp fIx (eVar 10) (eC (.int 0))) (aCons (eVar 11) aNil))))) (mOr (mNot (eT (eCallN 2 F__law_same (aCons (eOp fIx (eVar 10) (eC (.int 1))) (aCons (eVar 12) aNil))))) (mAnd (eT (eOp fNe (eOp fIx (eVar 12) (eC (.int 0))) (eC (.int 0)))) (eT (eOp fNe (eOp fIx (eVar 10) (eC (.int 2))) (eVar 1))))))) (sRet (eC (.bool false))) sNext)) (sSeq (sIf (mOr (eT (eOp fNe (eCallN 1 F_sign_of_root (aCons (eCallN 2 F_minus_root (aCons (eCallN 2 F_times_root (aCons (eCallN 1 F_root_of (aCons (eVar 1) aNil)) (aCons (eCallN 1 F_root_of (aCons (eVar 1) aNil)) aNil))) (aCons (eCallN 1 F_plain (aCons (eVar 1) aNil)) aNil))) aNil)) (eC (.int 0)))) (eT (eOp fNe (eCallN 1 F_root_of (aCons (eTup (aCons (eC (.int 9)) (aCons (eC (.int 4)) aNil))) aNil)) (eCallN 1 F_plain (aCons (eTup (aCons (eC (.int 3)) (aCons (eC (.int 2)) aNil))) aNil))))) (sRet (eC (.bool false))) sNext) (sRet (eOp fEq (eLc (itT (eTup (aCons (eTup (aCons (eTup (aCons (eC (.int 0)) (aCons (eC (.int 1)) aNil))) (aCons (eTup (aCons (eC (.int 1)) (aCons (eC (.int 1)) aNil))) (aCons (eTup (aCons (eC (.int 0)) (aCons (eC (.int 1)) aNil))) aNil)))) (aCons (eTup (aCons (eTup (aCons (eC (.int 0)) (aCons (eC (.int 1)) aNil))) (aCons (eTup (aCons (eC (.int 0)) (aCons (eC (.int 1)) aNil))) (aCons (eTup (aCons (eC (.int 2)) (aCons (eC (.int 1)) aNil))) aNil)))) (aCons (eTup (aCons (eTup (aCons (eC (.int 0)) (aCons (eC (.int 1)) aNil))) (aCons (eTup (aCons (eC (.int 1)) (aCons (eC (.int 1)) aNil))) (aCons (eTup (aCons (eUn fNeg (eC (.int 2))) (aCons (eC (.int 1)) aNil))) aNil)))) (aCons (eC .none) (aCons (eTup (aCons (eTup (aCons (eC (.int 0)) (aCons (eC (.int 1)) aNil))) aNil)) aNil))))))) [14] (mgName 14) (eT (eOp fNotB (eCallN 1 F_is_root (aCons (eVar 14) aNil)) (eC (.bool false)))) (eVar 14)) (eLst aNil)))))))))))))
def F__law_root : List D → M D := bodyF 3 (sSeq (sAsg (eLc (itR1 (aCons (eC (.int 2)) aNil)) [2] (mgName 2) mYes (eCallN 2 F_fraction (aCons (eOp fSub (eCallN 2 F__law_next (aCons (eVar 0) (aCons (eC (.int 9)) aNil))) (eC (.int 4))) (aCons (eOp fAdd (eC (.int 1)) (eCallN 2 F__law_next (aCons (eVar 0) (aCons (eC (.int 3)) aNil)))) aNil)))) (mgName 1)) (sRet (eCallN 3 F_tidy (aCons (eOp fIx (eVar 1) (eC (.int 0))) (aCons (eOp fIx (eVar 1) (eC (.int 1))) (aCons (eOp fIx (eTup (aCons (eTup (aCons (eC (.int 0)) (aCons (eC (.int 1)) aNil))) (aCons (eTup (aCons (eC (.int 2)) (aCons (eC (.int 1)) aNil))) (aCons (eTup (aCons (eC (.int 3)) (aCons (eC (.int 1)) aNil))) (aCons (eTup (aCons (eC (.int 1)) (aCons (eC (.int 2)) aNil))) (aCons (eTup (aCons (eC (.int 4)) (aCons (eC (.int 1)) aNil))) (aCons (eTup (aCons (eC (.int 5)) (aCons (eC (.int 4)) aNil))) aNil))))))) (eCallN 2 F__law_next (aCons (eVar 0) (aCons (eC (.int 6)) aNil)))) aNil))))))
def F_bound_of : List D → M D := bodyF 5 (sSeq (sAsg (eVar 0) (mgTup 3 (mgCons (mgName 1) (mgCons (mgName 2) (mgCons (mgName 3) mgNil))))) (sSeq (sAsg (eCallN 2 F_times (aCons (eCallN 1 F_square (aCons (eVar 2) aNil)) (aCons (eVar 3) aNil))) (mgName 4)) (sRet (eOp fAdd (eOp fAdd (eOp fDiv (eCall fAbs (aCons (eOp fIx (eVar 1) (eC (.int 0))) aNil)) (eOp fIx (eVar 1) (eC (.int 1)))) (eOp fDiv (eOp fIx (eVar 4) (eC (.int 0))) (eOp fIx (eVar 4) (eC (.int 1))))) (eC (.int 3))))))
def F_floor_of : List D → M D := bodyF 4 (sSeq (sPar 1 2 (aCons (eUn fNeg (eCallN 1 F_bound_of (aCons (eVar 0) aNil))) (aCons (eCallN 1 F_bound_of (aCons (eVar 0) aNil)) aNil))) (sSeq (sWhile (eT (eOp fGt (eOp fSub (eVar 2) (eVar 1)) (eC (.int 1)))) (sSeq (sAsg (eOp fDiv (eOp fAdd (eVar 1) (eVar 2)) (eC (.int 2))) (mgName 3)) (sIf (eT (eOp fLe (eCallN 2 F_compare (aCons (eCallN 1 F_plain (aCons (eCallN 1 F_whole (aCons (eVar 3) aNil)) aNil)) (aCons (eVar 0) aNil))) (eC (.int 0)))) (sAsg (eVar 3) (mgName 1)) (sAsg (eVar 3) (mgName 2))))) (sRet (eVar 1))))
def F_rounded : List D → M D := bodyF 4 (sSeq (sAsg (eC (.int 1)) (mgName 2)) (sSeq (sFor (itR1 (aCons (eVar 1) aNil)) (mgName 3) (sAug 2 fMul (eC (.int 10)))) (sRet (eCallN 1 F_floor_of (aCons (eCallN 2 F_minus_root (aCons (eCallN 2 F_by_fraction (aCons (eVar 0) (aCons (eCallN 1 F_whole (aCons (eVar 2) aNil)) aNil))) (aCons (eCallN 1 F_plain (aCons (eCallN 2 F_fraction (aCons (eUn fNeg (eC (.int 1))) (aCons (eC (.int 2)) aNil))) aNil)) aNil))) aNil)))))
def F_digits_of : List D → M D := bodyF 5 (sSeq (sAsg (eCallN 2 F_rounded (aCons (eVar 0) (aCons (eVar 1) aNil))) (mgName 2)) (sSeq (sAsg (eCall fStr (aCons (eCall fAbs (aCons (eVar 2) aNil)) aNil)) (mgName 3)) (sSeq (sAsg (eOp fCatS (eOp fMulS (eC (.str "0")) (eOp fSub (eOp fAdd (eVar 1) (eC (.int 1))) (eCall fLen (aCons (eVar 3) aNil)))) (eVar 3)) (mgName 3)) (sSeq (sAsg (eIf (eT (eOp fLt (eVar 2) (eC (.int 0)))) (eC (.str "-")) (eC (.str ""))) (mgName 4)) (sRet (eOp fCatS (eOp fCatS (eVar 4) (eSl (eVar 3) oNone (oSome (eOp fSub (eCall fLen (aCons (eVar 3) aNil)) (eVar 1))))) (eIf (eT (eOp fGt (eVar 1) (eC (.int 0)))) (eOp fCatS (eC (.str ".")) (eSl (eVar 3) (oSome (eOp fSub (eCall fLen (aCons (eVar 3) aNil)) (eVar 1))) oNone)) (eC (.str "")))))))))
def F_near_by : List D → M D := bodyF 2 (sRet (eCallN 2 F_fraction (aCons (eCallN 1 F_floor_of (aCons (eCallN 2 F_by_fraction (aCons (eVar 0) (aCons (eCallN 1 F_whole (aCons (eVar 1) aNil)) aNil))) aNil)) (aCons (eVar 1) aNil))))
def F_rank_of : List D → M D := bodyF 4 (sSeq (sAsg (eLc (itL (eVar 0)) [3] (mgName 3) mYes (eCallN 2 F_compare (aCons (eVar 3) (aCons (eVar 1) aNil)))) (mgName 2)) (sRet (eTup (aCons (eCount (eVar 2) (aCons (eUn fNeg (eC (.int 1))) aNil)) (aCons (eCount (eVar 2) (aCons (eC (.int 0)) aNil)) aNil)))))
def F__law_gap : List D → M D := bodyF 12 (sSeq (sAsg (eVar 0) (mgTup 3 (mgCons (mgName 2) (mgCons (mgName 3) (mgCons (mgName 4) mgNil))))) (sSeq (sAsg (eVar 1) (mgTup 3 (mgCons (mgName 5) (mgCons (mgName 6) (mgCons (mgName 7) mgNil))))) (sSeq (sAsg (eCallN 2 F__law_plus (aCons (eVar 2) (aCons (eCallN 2 F__law_by (aCons (eTup (aCons (eUn fNeg (eC (.int 1))) (aCons (eC (.int 1)) aNil))) (aCons (eVar 5) aNil))) aNil))) (mgName 8)) (sSeq (sAsg (eCallN 3 F__law_rooted (aCons (eVar 8) (aCons (eVar 3) (aCons (eVar 4) aNil)))) (mgName 9)) (sSeq (sAsg (eCallN 3 F__law_rooted (aCons (eTup (aCons (eC (.int 0)) (aCons (eC (.int 1)) aNil))) (aCons (eVar 6) (aCons (eVar 7) aNil)))) (mgName 10)) (sSeq (sIf (mOr (eT (eOp fNe (eVar 9) (eVar 10))) (eT (eOp fEq (eVar 9) (eC (.int 0))))) (sRet (eIf (eT (eOp fNe (eVar 9) (eC (.int 0)))) (eVar 9) (eOp fSub (eC (.int 0)) (eVar 10)))) sNext) (sSeq (sAsg (eCallN 2 F__law_plus (aCons (eCallN 2 F__law_plus (aCons (eCallN 2 F__law_by (aCons (eVar 8) (aCons (eVar 8) aNil))) (aCons (eCallN 2 F__law_by (aCons (eCallN 2 F__law_by (aCons (eVar 3) (aCons (eVar 3) aNil))) (aCons (eVar 4) aNil))) aNil))) (aCons (eCallN 2 F__law_by (aCons (eTup (aCons (eUn fNeg (eC (.int 1))) (aCons (eC (.int 1)) aNil))) (aCons (eCallN 2 F__law_by (aCons (eCallN 2 F__law_by (aCons (eVar 6) (aCons (eVar 6) aNil))) (aCons (eVar 7) aNil))) aNil))) aNil))) (mgName 11)) (sRet (eOp fMul (eVar 9) (eCallN 3 F__law_rooted (aCons (eVar 11) (aCons (eCallN 2 F__law_by (aCons (eTup (aCons (eC (.int 2)) (aCons (eC (.int 1)) aNil))) (aCons (eCallN 2 F__law_by (aCons (eVar 8) (aCons (eVar 3) aNil))) aNil))) (aCons (eVar 4) aNil)))))))))))))
def F_between : List D → M D := bodyF 5 (sSeq (sAsg (eC (.int 1)) (mgName 2)) (sWhile (eT (eC (.bool true))) (sSeq (sAsg (eOp fAdd (eCallN 1 F_floor_of (aCons (eCallN 2 F_by_fraction (aCons (eVar 0) (aCons (eCallN 1 F_whole (aCons (eVar 2) aNil)) aNil))) aNil)) (eC (.int 1))) (mgName 3)) (sSeq (sAsg (eCallN 2 F_fraction (aCons (eVar 3) (aCons (eVar 2) aNil))) (mgName 4)) (sSeq (sIf (eT (eOp fLt (eCallN 2 F_compare (aCons (eCallN 1 F_plain (aCons (eVar 4) aNil)) (aCons (eVar 1) aNil))) (eC (.int 0)))) (sRet (eVar 4)) sNext) (sAug 2 fMul (eC (.int 2))))))))
def F_least_of : List D → M D := bodyF 3 (sSeq (sAsg (eOp fIx (eVar 0) (eC (.int 0))) (mgName 1)) (sSeq (sFor (itL (eSl (eVar 0) (oSome (eC (.int 1))) oNone)) (mgName 2) (sAsg (eIf (eT (eOp fLt (eCallN 2 F_compare (aCons (eVar 2) (aCons (eVar 1) aNil))) (eC (.int 0)))) (eVar 2) (eVar 1)) (mgName 1))) (sRet (eVar 1))))
def F_greatest_of : List D → M D := bodyF 3 (sSeq (sAsg (eOp fIx (eVar 0) (eC (.int 0))) (mgName 1)) (sSeq (sFor (itL (eSl (eVar 0) (oSome (eC (.int 1))) oNone)) (mgName 2) (sAsg (eIf (eT (eOp fGt (eCallN 2 F_compare (aCons (eVar 2) (aCons (eVar 1) aNil))) (eC (.int 0)))) (eVar 2) (eVar 1)) (mgName 1))) (sRet (eVar 1))))
def F__law_roots : List D → M D := bodyF 11 (sSeq (sAsg (eLc (itR1 (aCons (eC (.int 4)) aNil)) [10] (mgName 10) mYes (eCallN 1 F__law_root (aCons (eVar 0) aNil))) (mgName 1)) (sSeq (sFor (itL (eVar 1)) (mgName 2) (sSeq (sIf (mOr (eT (eOp fNotB (eCallN 1 F_is_root (aCons (eVar 2) aNil)) (eC (.bool true)))) (eT (eOp fNe (eCallN 1 F_sign_of_root (aCons (eVar 2) aNil)) (eCallN 3 F__law_rooted (aCons (eOp fIx (eVar 2) (eC (.int 0))) (aCons (eOp fIx (eVar 2) (eC (.int 1))) (aCons (eOp fIx (eVar 2) (eC (.int 2))) aNil))))))) (sRet (eC (.bool false))) sNext) (sSeq (sFor (itL (eVar 1)) (mgName 3) (sIf (eT (eOp fNe (eCallN 2 F_compare (aCons (eVar 2) (aCons (eVar 3) aNil))) (eCallN 2 F__law_gap (aCons (eVar 2) (aCons (eVar 3) aNil))))) (sRet (eC (.bool false))) sNext)) (sSeq (sAsg (eCallN 1 F_floor_of (aCons (eVar 2) aNil)) (mgName 4)) (sSeq (sIf (mOr (eT (eOp fGt (eCallN 2 F__law_gap (aCons (eCallN 1 F_plain (aCons (eTup (aCons (eVar 4) (aCons (eC (.int 1)) aNil))) aNil)) (aCons (eVar 2) aNil))) (eC (.int 0)))) (eT (eOp fLe (eCallN 2 F__law_gap (aCons (eCallN 1 F_plain (aCons (eTup (aCons (eOp fAdd (eVar 4) (eC (.int 1))) (aCons (eC (.int 1)) aNil))) aNil)) (aCons (eVar 2) aNil))) (eC (.int 0))))) (sRet (eC (.bool false))) sNext) (sSeq (sAsg (eCallN 2 F_rounded (aCons (eVar 2) (aCons (eC (.int 2)) aNil))) (mgName 5)) (sSeq (sIf (mOr (eT (eOp fGt (eCallN 2 F__law_gap (aCons (eCallN 1 F_plain (aCons (eCallN 2 F_fraction (aCons (eOp fSub (eOp fMul (eC (.int 2)) (eVar 5)) (eC (.int 1))) (aCons (eC (.int 200)) aNil))) aNil)) (aCons (eVar 2) aNil))) (eC (.int 0)))) (eT (eOp fLe (eCallN 2 F__law_gap (aCons (eCallN 1 F_plain (aCons (eCallN 2 F_fraction (aCons (eOp fAdd (eOp fMul (eC (.int 2)) (eVar 5)) (eC (.int 1))) (aCons (eC (.int 200)) aNil))) aNil)) (aCons (eVar 2) aNil))) (eC (.int 0))))) (sRet (eC (.bool false))) sNext) (sSeq (sAsg (eCallN 2 F_digits_of (aCons (eVar 2) (aCons (eC (.int 2)) aNil))) (mgName 6)) (sSeq (sIf (mOr (eT (eOp fNe (eCall fIntS (aCons (eRepl "-" "" (eRepl "." "" (eVar 6))) aNil)) (eCall fAbs (aCons (eVar 5) aNil)))) (mOr (eT (eOp fNe (eOp fEq (eOp fIxS (eVar 6) (eC (.int 0))) (eC (.str "-"))) (eOp fLt (eVar 5) (eC (.int 0))))) (eT (eOp fNe (eCall fLen (aCons (eOp fIx (eSplit (eVar 6) ".") (eC (.int 1))) aNil)) (eC (.int 2)))))) (sRet (eC (.bool false))) sNext) (sSeq (sAsg (eCallN 2 F_near_by (aCons (eVar 2) (aCons (eC (.int 3)) aNil))) (mgName 7)) (sIf (mOr (eT (eOp fGt (eCallN 2 F__law_gap (aCons (eCallN 1 F_plain (aCons (eVar 7) aNil)) (aCons (eVar 2) aNil))) (eC (.int 0)))) (eT (eOp fLe (eCallN 2 F__law_gap (aCons (eCallN 1 F_plain (aCons (eCallN 2 F__law_plus (aCons (eVar 7) (aCons (eTup (aCons (eC (.int 1)) (aCons (eC (.int 3)) aNil))) aNil))) aNil)) (aCons (eVar 2) aNil))) (eC (.int 0))))) (sRet (eC (.bool false))) sNext))))))))))) (sSeq (sAsg (eCallN 1 F_sorted_roots (aCons (eVar 1) aNil)) (mgName 8)) (sSeq (sIf (mOr (eT (eOp fNe (eCall fSorted (aCons (eVar 8) aNil)) (eCall fSorted (aCons (eVar 1) aNil)))) (eT (eOp fNe (eLc (itR1 (aCons (eC (.int 3)) aNil)) [10] (mgName 10) (eT (eOp fGt (eCallN 2 F__law_gap (aCons (eOp fIx (eVar 8) (eVar 10)) (aCons (eOp fIx (eVar 8) (eOp fAdd (eVar 10) (eC (.int 1)))) aNil))) (eC (.int 0)))) (eVar 10)) (eLst aNil)))) (sRet (eC (.bool false))) sNext) (sSeq (sIf (eT (eOp fNe (eLc (itL (eVar 1)) [2] (mgName 2) (mOr (eT (eOp fGt (eCallN 2 F__law_gap (aCons (eCallN 1 F_least_of (aCons (eVar 1) aNil)) (aCons (eVar 2) aNil))) (eC (.int 0)))) (eT (eOp fLt (eCallN 2 F__law_gap (aCons (eCallN 1 F_greatest_of (aCons (eVar 1) aNil)) (aCons (eVar 2) aNil))) (eC (.int 0))))) (eVar 2)) (eLst aNil))) (sRet (eC (.bool false))) sNext) (sSeq (sIf (eT (eOp fNe (eCallN 2 F_rank_of (aCons (eVar 1) (aCons (eOp fIx (eVar 1) (eC (.int 0))) aNil))) (eTup (aCons (eCall fLen (aCons (eLc (itL (eVar 1)) [2] (mgName 2) (eT (eOp fLt (eCallN 2 F__law_gap (aCons (eVar 2) (aCons (eOp fIx (eVar 1) (eC (.int 0))) aNil))) (eC (.int 0)))) (eVar 2)) aNil)) (aCons (eCall fLen (aCons (eLc (itL (eVar 1)) [2] (mgName 2) (eT (eOp fEq (eCallN 2 F__law_gap (aCons (eVar 2) (aCons (eOp fIx (eVar 1) (eC (.int 0))) aNil))) (eC (.int 0)))) (eVar 2)) aNil)) aNil))))) (sRet (eC (.bool false))) sNext) (sSeq (sIf (eT (eOp fLt (eCallN 2 F__law_gap (aCons (eOp fIx (eVar 8) (eC (.int 0))) (aCons (eOp fIx (eVar 8) (eUn fNeg (eC (.int 1)))) aNil))) (eC (.int 0)))) (sSeq (sAsg (eCallN 2 F_between (aCons (eOp fIx (eVar 8) (eC (.int 0))) (aCons (eOp fIx (eVar 8) (eUn fNeg (eC (.int 1)))) aNil))) (mgName 9)) (sIf (mOr (eT (eOp fGe (eCallN 2 F__law_gap (aCons (eOp fIx (eVar 8) (eC (.int 0))) (aCons (eCallN 1 F_plain (aCons (eVar 9) aNil)) aNil))) (eC (.int 0)))) (eT (eOp fGe (eCallN 2 F__law_gap (aCons (eCallN 1 F_plain (aCons (eVar 9) aNil)) (aCons (eOp fIx (eVar 8) (eUn fNeg (eC (.int 1)))) aNil))) (eC (.int 0))))) (sRet (eC (.bool false))) sNext)) sNext) (sRet (eCallN 1 F__law_sums (aCons (eVar 0) aNil))))))))))
def F__law_spot : List D → M D := bodyF 1 (sRet (eTup (aCons (eTup (aCons (eTup (aCons (eOp fSub (eCallN 2 F__law_next (aCons (eVar 0) (aCons (eC (.int 13)) aNil))) (eC (.int 6))) (aCons (eC (.int 2)) aNil))) (aCons (eTup (aCons (eC (.int 0)) (aCons (eC (.int 1)) aNil))) (aCons (eTup (aCons (eC (.int 0)) (aCons (eC (.int 1)) aNil))) aNil)))) (aCons (eTup (aCons (eTup (aCons (eOp fSub (eCallN 2 F__law_next (aCons (eVar 0) (aCons (eC (.int 13)) aNil))) (eC (.int 6))) (aCons (eC (.int 2)) aNil))) (aCons (eTup (aCons (eC (.int 0)) (aCons (eC (.int 1)) aNil))) (aCons (eTup (aCons (eC (.int 0)) (aCons (eC (.int 1)) aNil))) aNil)))) aNil))))
def F_compare_points : List D → M D := bodyF 3 (sSeq (sAsg (eCallN 2 F_compare (aCons (eOp fIx (eVar 0) (eC (.int 0))) (aCons (eOp fIx (eVar 1) (eC (.int 0))) aNil))) (mgName 2)) (sRet (eIf (eT (eOp fNe (eVar 2) (eC (.int 0)))) (eVar 2) (eCallN 2 F_compare (aCons (eOp fIx (eVar 0) (eC (.int 1))) (aCons (eOp fIx (eVar 1) (eC (.int 1))) aNil))))))
def F_in_order : List D → M D := bodyF 5 (sSeq (sOwn 1 aNil) (sSeq (sFor (itL (eVar 0)) (mgName 2) (sSeq (sAsg (eCall fLen (aCons (eLc (itO 1) [4] (mgName 4) (eT (eOp fLt (eCallN 2 F_compare_points (aCons (eVar 4) (aCons (eVar 2) aNil))) (eC (.int 0)))) (eVar 4)) aNil)) (mgName 3)) (sIf (mOr (eT (eOp fEq (eVar 3) (eLenO 1))) (eT (eOp fNe (eCallN 2 F_compare_points (aCons (eIxO 1 (eVar 3)) (aCons (eVar 2) aNil))) (eC (.int 0))))) (sIns 1 (aCons (eVar 3) (aCons (eVar 2) aNil))) sNext))) (sFreeze 1 (sRet (eVar 1)))))
def F_of_lines : List D → M D := bodyF 11 (sSeq (sAsg (eVar 0) (mgTup 4 (mgCons (mgName 2) (mgCons (mgName 3) (mgCons (mgName 4) (mgCons (mgName 5) mgNil)))))) (sSeq (sAsg (eVar 1) (mgTup 4 (mgCons (mgName 2) (mgCons (mgName 6) (mgCons (mgName 7) (mgCons (mgName 8) mgNil)))))) (sSeq (sAsg (eCallN 2 F_minus (aCons (eCallN 2 F_times (aCons (eVar 3) (aCons (eVar 7) aNil))) (aCons (eCallN 2 F_times (aCons (eVar 4) (aCons (eVar 6) aNil))) aNil))) (mgName 9)) (sSeq (sIf (eT (eOp fEq (eVar 9) (eC c_NOTHING))) (sRet (eLst aNil)) sNext) (sSeq (sAsg (eCallN 2 F_over (aCons (eCallN 2 F_minus (aCons (eCallN 2 F_times (aCons (eVar 4) (aCons (eVar 8) aNil))) (aCons (eCallN 2 F_times (aCons (eVar 5) (aCons (eVar 7) aNil))) aNil))) (aCons (eVar 9) aNil))) (mgName 10)) (sRet (eLst (aCons (eTup (aCons (eCallN 1 F_plain (aCons (eVar 10) aNil)) (aCons (eCallN 1 F_plain (aCons (eCallN 2 F_over (aCons (eCallN 2 F_minus (aCons (eCallN 2 F_times (aCons (eVar 5) (aCons (eVar 6) aNil))) (aCons (eCallN 2 F_times (aCons (eVar 3) (aCons (eVar 8) aNil))) aNil))) (aCons (eVar 9) aNil))) aNil)) aNil))) aNil))))))))
def F_is_upright : List D → M D := bodyF 1 (sRet (eAnd (eOp fEq (eOp fIx (eVar 0) (eC (.int 0))) (eC (.int 0))) (eOp fEq (eOp fIx (eVar 0) (eC (.int 2))) (eC c_NOTHING))))
def F_both_roots : List D → M D := bodyF 7 (sSeq (sAsg (eCallN 2 F_minus (aCons (eCallN 1 F_square (aCons (eVar 1) aNil)) (aCons (eCallN 2 F_times (aCons (eTup (aCons (eC (.int 4)) (aCons (eC (.int 1)) aNil))) (aCons (eCallN 2 F_times (aCons (eVar 0) (aCons (eVar 2) aNil))) aNil))) aNil))) (mgName 3)) (sSeq (sIf (eT (eOp fLt (eCallN 1 F_sign (aCons (eVar 3) aNil)) (eC (.int 0)))) (sRet (eLst aNil)) sNext) (sSeq (sAsg (eCallN 2 F_times (aCons (eTup (aCons (eC (.int 2)) (aCons (eC (.int 1)) aNil))) (aCons (eVar 0) aNil))) (mgName 4)) (sSeq (sPar 5 6 (aCons (eCallN 2 F_over (aCons (eCallN 1 F_turned (aCons (eVar 1) aNil)) (aCons (eVar 4) aNil))) (aCons (eCallN 2 F_over (aCons (eTup (aCons (eC (.int 1)) (aCons (eC (.int 1)) aNil))) (aCons (eVar 4) aNil))) aNil))) (sSeq (sIf (eT (eOp fEq (eVar 3) (eC c_NOTHING))) (sRet (eLst (aCons (eCallN 1 F_plain (aCons (eVar 5) aNil)) aNil))) sNext) (sSeq (sAsg (eIf (eT (eOp fGt (eCallN 1 F_sign (aCons (eVar 6) aNil)) (eC (.int 0)))) (eVar 6) (eCallN 1 F_turned (aCons (eVar 6) aNil))) (mgName 6)) (sRet (eLst (aCons (eCallN 3 F_tidy (aCons (eVar 5) (aCons (eCallN 1 F_turned (aCons (eVar 6) aNil)) (aCons (eVar 3) aNil)))) (aCons (eCallN 3 F_tidy (aCons (eVar 5) (aCons (eVar 6) (aCons (eVar 3) aNil)))) aNil))))))))))
def F_of_line_and_circle : List D → M D := bodyF 16 (sSeq (sAsg (eVar 0) (mgTup 4 (mgCons (mgName 2) (mgCons (mgName 3) (mgCons (mgName 4) (mgCons (mgName 5) mgNil)))))) (sSeq (sAsg (eVar 1) (mgTup 4 (mgCons (mgName 2) (mgCons (mgName 6) (mgCons (mgName 7) (mgCons (mgName 8) mgNil)))))) (sSeq (sIf (eT (eCallN 1 F_is_upright (aCons (eVar 0) aNil))) (sSeq (sAsg (eCallN 1 F_turned (aCons (eVar 5) aNil)) (mgName 9)) (sSeq (sAsg (eCallN 3 F_both_roots (aCons (eTup (aCons (eC (.int 1)) (aCons (eC (.int 1)) aNil))) (aCons (eVar 7) (aCons (eCallN 1 F_sum_of (aCons (eLst (aCons (eCallN 1 F_square (aCons (eVar 9) aNil)) (aCons (eCallN 2 F_times (aCons (eVar 6) (aCons (eVar 9) aNil))) (aCons (eVar 8) aNil)))) aNil)) aNil)))) (mgName 10)) (sRet (eLc (itL (eVar 10)) [15] (mgName 15) mYes (eTup (aCons (eCallN 1 F_plain (aCons (eVar 9) aNil)) (aCons (eVar 15) aNil))))))) sNext) (sSeq (sAsg (eTup (aCons (eCallN 2 F_over (aCons (eCallN 1 F_turned (aCons (eVar 3) aNil)) (aCons (eVar 4) aNil))) (aCons (eCallN 2 F_over (aCons (eCallN 1 F_turned (aCons (eVar 5) aNil)) (aCons (eVar 4) aNil))) aNil))) (mgTup 2 (mgCons (mgName 11) (mgCons (mgName 12) mgNil)))) (sSeq (sAsg (eCallN 2 F_added (aCons (eTup (aCons (eC (.int 1)) (aCons (eC (.int 1)) aNil))) (aCons (eCallN 1 F_square (aCons (eVar 11) aNil)) aNil))) (mgName 13)) (sSeq (sAsg (eCallN 1 F_sum_of (aCons (eLst (aCons (eCallN 2 F_times (aCons (eTup (aCons (eC (.int 2)) (aCons (eC (.int 1)) aNil))) (aCons (eCallN 2 F_times (aCons (eVar 11) (aCons (eVar 12) aNil))) aNil))) (aCons (eVar 6) (aCons (eCallN 2 F_times (aCons (eVar 7) (aCons (eVar 11) aNil))) aNil)))) aNil)) (mgName 14)) (sSeq (sAsg (eCallN 3 F_both_roots (aCons (eVar 13) (aCons (eVar 14) (aCons (eCallN 1 F_sum_of (aCons (eLst (aCons (eCallN 1 F_square (aCons (eVar 12) aNil)) (aCons (eCallN 2 F_times (aCons (eVar 7) (aCons (eVar 12) aNil))) (aCons (eVar 8) aNil)))) aNil)) aNil)))) (mgName 10)) (sRet (eLc (itL (eVar 10)) [9] (mgName 9) mYes (eTup (aCons (eVar 9) (aCons (eCallN 2 F_added_root (aCons (eCallN 2 F_by_fraction (aCons (eVar 9) (aCons (eVar 11) aNil))) (aCons (eCallN 1 F_plain (aCons (eVar 12) aNil)) aNil))) aNil))))))))))))
def F_same_power : List D → M D := bodyF 6 (sSeq (sPar3 2 3 4 (aCons (eCallN 2 F_minus (aCons (eOp fIx (eVar 0) (eC (.int 1))) (aCons (eOp fIx (eVar 1) (eC (.int 1))) aNil))) (aCons (eCallN 2 F_minus (aCons (eOp fIx (eVar 0) (eC (.int 2))) (aCons (eOp fIx (eVar 1) (eC (.int 2))) aNil))) (aCons (eCallN 2 F_minus (aCons (eOp fIx (eVar 0) (eC (.int 3))) (aCons (eOp fIx (eVar 1) (eC (.int 3))) aNil))) aNil)))) (sSeq (sAsg (eIf (eT (eOp fNe (eVar 2) (eC c_NOTHING))) (eVar 2) (eVar 3)) (mgName 5)) (sSeq (sIf (eT (eOp fEq (eVar 5) (eC c_NOTHING))) (sRet (eC .none)) sNext) (sRet (eTup (aCons (eC (.int 0)) (aCons (eCallN 2 F_over (aCons (eVar 2) (aCons (eVar 5) aNil))) (aCons (eCallN 2 F_over (aCons (eVar 3) (aCons (eVar 5) aNil))) (aCons (eCallN 2 F_over (aCons (eVar 4) (aCons (eVar 5) aNil))) aNil)))))))))
def F_meets : List D → M D := bodyF 4 (sSeq (sIf (mAnd (eT (eOp fEq (eOp fIx (eVar 0) (eC (.int 0))) (eC (.int 0)))) (eT (eOp fEq (eOp fIx (eVar 1) (eC (.int 0))) (eC (.int 0))))) (sAsg (eCallN 2 F_of_lines (aCons (eVar 0) (aCons (eVar 1) aNil))) (mgName 2)) (sIf (eT (eOp fEq (eOp fIx (eVar 0) (eC (.int 0))) (eC (.int 0)))) (sAsg (eCallN 2 F_of_line_and_circle (aCons (eVar 0) (aCons (eVar 1) aNil))) (mgName 2)) (sIf (eT (eOp fEq (eOp fIx (eVar 1) (eC (.int 0))) (eC (.int 0)))) (sAsg (eCallN 2 F_of_line_and_circle (aCons (eVar 1) (aCons (eVar 0) aNil))) (mgName 2)) (sSeq (sAsg (eCallN 2 F_same_power (aCons (eVar 0) (aCons (eVar 1) aNil))) (mgName 3)) (sAsg (eIf (eT (eOp fNotN (eVar 3) (eC .none))) (eCallN 2 F_of_line_and_circle (aCons (eVar 3) (aCons (eVar 0) aNil))) (eLst aNil)) (mgName 2)))))) (sRet (eCallN 1 F_in_order (aCons (eVar 2) aNil))))
def F_touch_kind : List D → M D := bodyF 11 (sSeq (sIf (eT (eOp fEq (eVar 0) (eVar 1))) (sRet (eC (.str "same"))) sNext) (sSeq (sAsg (eTup (aCons (eCallN 1 F_middle_of (aCons (eVar 0) aNil)) (aCons (eCallN 1 F_middle_of (aCons (eVar 1) aNil)) aNil))) (mgTup 2 (mgCons (mgTup 2 (mgCons (mgName 2) (mgCons (mgName 3) mgNil))) (mgCons (mgTup 2 (mgCons (mgName 4) (mgCons (mgName 5) mgNil))) mgNil)))) (sSeq (sAsg (eCallN 2 F_added (aCons (eCallN 1 F_square (aCons (eCallN 2 F_minus (aCons (eVar 2) (aCons (eVar 4) aNil))) aNil)) (aCons (eCallN 1 F_square (aCons (eCallN 2 F_minus (aCons (eVar 3) (aCons (eVar 5) aNil))) aNil)) aNil))) (mgName 6)) (sSeq (sPar 7 8 (aCons (eCallN 1 F_radius_of (aCons (eVar 0) aNil)) (aCons (eCallN 1 F_radius_of (aCons (eVar 1) aNil)) aNil))) (sSeq (sAsg (eCallN 2 F_minus (aCons (eVar 6) (aCons (eCallN 2 F_added (aCons (eVar 7) (aCons (eVar 8) aNil))) aNil))) (mgName 9)) (sSeq (sAsg (eCallN 1 F_sign (aCons (eCallN 2 F_minus (aCons (eCallN 1 F_square (aCons (eVar 9) aNil)) (aCons (eCallN 2 F_times (aCons (eTup (aCons (eC (.int 4)) (aCons (eC (.int 1)) aNil))) (aCons (eCallN 2 F_times (aCons (eVar 7) (aCons (eVar 8) aNil))) aNil))) aNil))) aNil)) (mgName 10)) (sSeq (sIf (eT (eOp fLt (eVar 10) (eC (.int 0)))) (sRet (eC (.str "cross"))) sNext) (sSeq (sIf (eT (eOp fGt (eCallN 1 F_sign (aCons (eVar 9) aNil)) (eC (.int 0)))) (sRet (eIf (eT (eOp fEq (eVar 10) (eC (.int 0)))) (eC (.str "touch")) (eC (.str "apart")))) sNext) (sSeq (sIf (eT (eOp fEq (eVar 10) (eC (.int 0)))) (sRet (eC (.str "touch within"))) sNext) (sRet (eIf (eT (eOp fLt (eCallN 1 F_sign (aCons (eCallN 2 F_minus (aCons (eVar 7) (aCons (eVar 8) aNil))) aNil)) (eC (.int 0)))) (eC (.str "within")) (eC (.str "round")))))))))))))
def F__law_meet : List D → M D := bodyF 22 (sSeq (sAsg (eCallN 2 F_meets (aCons (eVar 0) (aCons (eVar 1) aNil))) (mgName 2)) (sSeq (sIf (mOr (eT (eOp fNe (eVar 2) (eCallN 2 F_meets (aCons (eVar 1) (aCons (eVar 0) aNil))))) (eT (eOp fNe (eLc (itR1 (aCons (eOp fSub (eCall fLen (aCons (eVar 2) aNil)) (eC (.int 1))) aNil)) [20] (mgName 20) (eT (eOp fGe (eCallN 2 F_compare_points (aCons (eOp fIx (eVar 2) (eVar 20)) (aCons (eOp fIx (eVar 2) (eOp fAdd (eVar 20) (eC (.int 1)))) aNil))) (eC (.int 0)))) (eVar 20)) (eLst aNil)))) (sRet (eC (.bool false))) sNext) (sSeq (sFor (itL (eVar 2)) (mgName 3) (sIf (mOr (eT (eOp fNe (eCallN 2 F__law_sign (aCons (eVar 0) (aCons (eVar 3) aNil))) (eC (.int 0)))) (mOr (eT (eOp fNe (eCallN 2 F__law_sign (aCons (eVar 1) (aCons (eVar 3) aNil))) (eC (.int 0)))) (eT (eOp fNe (eLc (itT (eVar 3)) [21] (mgName 21) (eT (eOp fNotB (eCallN 1 F_is_root (aCons (eVar 21) aNil)) (eC (.bool true)))) (eVar 21)) (eLst aNil))))) (sRet (eC (.bool false))) sNext)) (sSeq (sIf (mAnd (eT (eOp fEq (eOp fIx (eVar 0) (eC (.int 0))) (eC (.int 1)))) (eT (eOp fEq (eOp fIx (eVar 1) (eC (.int 0))) (eC (.int 1))))) (sSeq (sAsg (eTup (aCons (eCallN 1 F_middle_of (aCons (eVar 0) aNil)) (aCons (eCallN 1 F_middle_of (aCons (eVar 1) aNil)) aNil))) (mgTup 2 (mgCons (mgTup 2 (mgCons (mgName 4) (mgCons (mgName 5) mgNil))) (mgCons (mgTup 2 (mgCons (mgName 6) (mgCons (mgName 7) mgNil))) mgNil)))) (sSeq (sAsg (eCallN 2 F__law_plus (aCons (eCallN 2 F__law_by (aCons (eCallN 2 F__law_plus (aCons (eVar 4) (aCons (eTup (aCons (eOp fSub (eC (.int 0)) (eOp fIx (eVar 6) (eC (.int 0)))) (aCons (eOp fIx (eVar 6) (eC (.int 1))) aNil))) aNil))) (aCons (eCallN 2 F__law_plus (aCons (eVar 4) (aCons (eTup (aCons (eOp fSub (eC (.int 0)) (eOp fIx (eVar 6) (eC (.int 0)))) (aCons (eOp fIx (eVar 6) (eC (.int 1))) aNil))) aNil))) aNil))) (aCons (eCallN 2 F__law_by (aCons (eCallN 2 F__law_plus (aCons (eVar 5) (aCons (eTup (aCons (eOp fSub (eC (.int 0)) (eOp fIx (eVar 7) (eC (.int 0)))) (aCons (eOp fIx (eVar 7) (eC (.int 1))) aNil))) aNil))) (aCons (eCallN 2 F__law_plus (aCons (eVar 5) (aCons (eTup (aCons (eOp fSub (eC (.int 0)) (eOp fIx (eVar 7) (eC (.int 0)))) (aCons (eOp fIx (eVar 7) (eC (.int 1))) aNil))) aNil))) aNil))) aNil))) (mgName 8)) (sSeq (sPar 9 10 (aCons (eCallN 1 F_radius_of (aCons (eVar 0) aNil)) (aCons (eCallN 1 F_radius_of (aCons (eVar 1) aNil)) aNil))) (sSeq (sAsg (eCallN 2 F__law_plus (aCons (eVar 8) (aCons (eCallN 2 F__law_by (aCons (eTup (aCons (eUn fNeg (eC (.int 1))) (aCons (eC (.int 1)) aNil))) (aCons (eCallN 2 F__law_plus (aCons (eVar 9) (aCons (eVar 10) aNil))) aNil))) aNil))) (mgName 11)) (sSeq (sPar 12 13 (aCons (eCallN 3 F__law_rooted (aCons (eVar 11) (aCons (eTup (aCons (eUn fNeg (eC (.int 2))) (aCons (eC (.int 1)) aNil))) (aCons (eCallN 2 F__law_by (aCons (eVar 9) (aCons (eVar 10) aNil))) aNil)))) (aCons (eCallN 3 F__law_rooted (aCons (eVar 11) (aCons (eTup (aCons (eC (.int 2)) (aCons (eC (.int 1)) aNil))) (aCons (eCallN 2 F__law_by (aCons (eVar 9) (aCons (eVar 10) aNil))) aNil)))) aNil))) (sSeq (sAsg (eIf (eT (eOp fGt (eVar 12) (eC (.int 0)))) (eC (.str "apart")) (eIf (eT (eOp fEq (eVar 12) (eC (.int 0)))) (eC (.str "touch")) (eIf (eT (eOp fGt (eVar 13) (eC (.int 0)))) (eC (.str "cross")) (eIf (eT (eOp fEq (eVar 13) (eC (.int 0)))) (eC (.str "touch within")) (eIf (eT (eOp fLt (eCallN 1 F__law_side (aCons (eCallN 2 F__law_plus (aCons (eVar 9) (aCons (eTup (aCons (eOp fSub (eC (.int 0)) (eOp fIx (eVar 10) (eC (.int 0)))) (aCons (eOp fIx (eVar 10) (eC (.int 1))) aNil))) aNil))) aNil)) (eC (.int 0)))) (eC (.str "within")) (eC (.str "round"))))))) (mgName 14)) (sSeq (sIf (mOr (eT (eOp fNe (eCallN 2 F_touch_kind (aCons (eVar 0) (aCons (eVar 1) aNil))) (eVar 14))) (eT (eOp fNe (eCall fLen (aCons (eVar 2) aNil)) (eTab3 "cross" "touch" "touch within" 2 1 1 0 (eVar 14))))) (sRet (eC (.bool false))) sNext) (sRet (eOp fEq (eCallN 2 F_touch_kind (aCons (eVar 0) (aCons (eVar 0) aNil))) (eC (.str "same"))))))))))) sNext) (sSeq (sIf (mAnd (eT (eOp fEq (eOp fIx (eVar 0) (eC (.int 0))) (eC (.int 0)))) (eT (eOp fEq (eOp fIx (eVar 1) (eC (.int 0))) (eC (.int 0))))) (sSeq (sAsg (eCallN 2 F__law_plus (aCons (eCallN 2 F__law_by (aCons (eOp fIx (eVar 0) (eC (.int 1))) (aCons (eOp fIx (eVar 1) (eC (.int 2))) aNil))) (aCons (eCallN 2 F__law_by (aCons (eTup (aCons (eUn fNeg (eC (.int 1))) (aCons (eC (.int 1)) aNil))) (aCons (eCallN 2 F__law_by (aCons (eOp fIx (eVar 1) (eC (.int 1))) (aCons (eOp fIx (eVar 0) (eC (.int 2))) aNil))) aNil))) aNil))) (mgName 15)) (sRet (eOp fEq (eCall fLen (aCons (eVar 2) aNil)) (eIf (eT (eOp fEq (eOp fIx (eVar 15) (eC (.int 0))) (eC (.int 0)))) (eC (.int 0)) (eC (.int 1)))))) sNext) (sSeq (sAsg (eIf (eT (eOp fEq (eOp fIx (eVar 0) (eC (.int 0))) (eC (.int 0)))) (eTup (aCons (eVar 0) (aCons (eVar 1) aNil))) (eTup (aCons (eVar 1) (aCons (eVar 0) aNil)))) (mgTup 2 (mgCons (mgName 16) (mgCons (mgName 17) mgNil)))) (sSeq (sAsg (eCallN 1 F_middle_of (aCons (eVar 17) aNil)) (mgTup 2 (mgCons (mgName 4) (mgCons (mgName 5) mgNil)))) (sSeq (sAsg (eCallN 2 F__law_plus (aCons (eCallN 2 F__law_by (aCons (eOp fIx (eVar 16) (eC (.int 1))) (aCons (eVar 4) aNil))) (aCons (eCallN 2 F__law_plus (aCons (eCallN 2 F__law_by (aCons (eOp fIx (eVar 16) (eC (.int 2))) (aCons (eVar 5) aNil))) (aCons (eOp fIx (eVar 16) (eC (.int 3))) aNil))) aNil))) (mgName 18)) (sSeq (sAsg (eCallN 2 F__law_plus (aCons (eCallN 2 F__law_by (aCons (eOp fIx (eVar 16) (eC (.int 1))) (aCons (eOp fIx (eVar 16) (eC (.int 1))) aNil))) (aCons (eCallN 2 F__law_by (aCons (eOp fIx (eVar 16) (eC (.int 2))) (aCons (eOp fIx (eVar 16) (eC (.int 2))) aNil))) aNil))) (mgName 19)) (sSeq (sAsg (eCallN 1 F__law_side (aCons (eCallN 2 F__law_plus (aCons (eCallN 2 F__law_by (aCons (eCallN 1 F_radius_of (aCons (eVar 17) aNil)) (aCons (eVar 19) aNil))) (aCons (eCallN 2 F__law_by (aCons (eTup (aCons (eUn fNeg (eC (.int 1))) (aCons (eC (.int 1)) aNil))) (aCons (eCallN 2 F__law_by (aCons (eVar 18) (aCons (eVar 18) aNil))) aNil))) aNil))) aNil)) (mgName 8)) (sRet (eOp fEq (eCall fLen (aCons (eVar 2) aNil)) (eOp fAdd (eC (.int 1)) (eVar 8))))))))))))))
def D_law : En → M D := (eCallN 2 F__law_draws (aCons (eVar 0) (aCons (eC (.int 200)) aNil)))
def R_law : MS := (sSeq (sFor (itR1 (aCons (eC (.int 2)) aNil)) (mgName 2) (sSeq (sIf (mOr (mNot (eT (eCallN 1 F__law_fractions (aCons (eVar 1) aNil)))) (mNot (eT (eCallN 1 F__law_roots (aCons (eVar 1) aNil))))) (sRet (eC (.bool false))) sNext) (sSeq (sAsg (eCallN 2 F__law_curves (aCons (eVar 1) (aCons (eC (.int 4)) aNil))) (mgName 3)) (sSeq (sFor (itR1 (aCons (eCall fLen (aCons (eVar 3) aNil)) aNil)) (mgName 4) (sIf (eT (eOp fNe (eLc (itR1 (aCons (eVar 4) aNil)) [12] (mgName 12) (mNot (eT (eCallN 2 F__law_meet (aCons (eOp fIx (eVar 3) (eVar 12)) (aCons (eOp fIx (eVar 3) (eVar 4)) aNil))))) (eVar 12)) (eLst aNil))) (sRet (eC (.bool false))) sNext)) (sSeq (sIf (mNot (eT (eCallN 2 F__law_made (aCons (eVar 1) (aCons (eVar 3) aNil))))) (sRet (eC (.bool false))) sNext) (sSeq (sAsg (eLc (itR1 (aCons (eC (.int 3)) aNil)) [4] (mgName 4) mYes (eTup (aCons (eOp fSub (eCallN 2 F__law_next (aCons (eVar 1) (aCons (eC (.int 5)) aNil))) (eC (.int 2))) (aCons (eC (.int 1)) aNil)))) (mgLst 3 (mgCons (mgName 5) (mgCons (mgName 6) (mgCons (mgName 7) mgNil))))) (sIf (eT (eOp fNe (eTup (aCons (eVar 5) (aCons (eVar 6) aNil))) (eTup (aCons (eTup (aCons (eC (.int 0)) (aCons (eC (.int 1)) aNil))) (aCons (eTup (aCons (eC (.int 0)) (aCons (eC (.int 1)) aNil))) aNil))))) (sSeq (sAsg (eCallN 3 F_line (aCons (eVar 5) (aCons (eVar 6) (aCons (eVar 7) aNil)))) (mgTup 2 (mgCons (mgName 8) (mgCons (mgName 9) mgNil)))) (sSeq (sAsg (eCallN 1 F__law_least (aCons (eCallN 1 F__law_spot (aCons (eVar 1) aNil)) aNil)) (mgName 10)) (sSeq (sAsg (eCallN 2 F__law_plus (aCons (eCallN 2 F__law_by (aCons (eVar 5) (aCons (eOp fIx (eOp fIx (eVar 10) (eC (.int 0))) (eC (.int 0))) aNil))) (aCons (eCallN 2 F__law_plus (aCons (eCallN 2 F__law_by (aCons (eVar 6) (aCons (eOp fIx (eOp fIx (eVar 10) (eC (.int 1))) (eC (.int 0))) aNil))) (aCons (eVar 7) aNil))) aNil))) (mgName 11)) (sIf (eT (eOp fNe (eOp fMul (eCallN 2 F__law_sign (aCons (eVar 8) (aCons (eVar 10) aNil))) (eIf (eT (eVar 9)) (eUn fNeg (eC (.int 1))) (eC (.int 1)))) (eCallN 1 F__law_side (aCons (eVar 11) aNil)))) (sRet (eC (.bool false))) sNext)))) sNext))))))) (sRet (eC (.bool true))))


/-! ### the meanings, step by step -/
local macro_rules | `(tactic| kpt_turns) => `(tactic| simp only [bodyF, env0, sSeq, sAsg, sRet, sIf, sPar, sPar3, sNext, sBreak, eCallN, eCall, aCons, aNil, eOp, eUn, eVar, eC, eT, eTup, eLst, eIf, eAnd, eOr, eNot, mAnd, mOr, mNot, mgName, mgTup, mgLst, mgCons, mgNil,
  fI, fAdd, fSub, fMul, fDiv, fMod, fLt, fLe, fGt, fGe, fIx, fNeg, fLen, fAbs, fIsN, fNotN, fIsB, fNotB, fSubB, true_and, and_true, List.map_cons, List.map_nil, List.length_cons, List.length_nil, List.replicate_succ, List.replicate_zero, List.cons_append, List.nil_append,
  List.getElem?_cons_zero, List.getElem?_cons_succ, List.set_cons_zero, List.set_cons_succ, Nat.reduceAdd, Nat.reduceSub, Nat.zero_add, Nat.sub_self, decide_eq_true_eq])

theorem okD_int (i : Int) : okD (.int i) := ⟨rfl, rfl⟩
theorem eqv_int (i j : Int) : PyData.eqv (.int i) (.int j) = decide (i = j) := by
  show (i == j) = _
  by_cases h : i = j <;> simp [h]

/-! ### the greatest common part -/
theorem gcd_step (a b : Int) : Int.gcd b (a.fmod b) = Int.gcd a b := by
  rw [Int.fmod_def, Int.gcd_sub_mul_left_right, Int.gcd_comm]
theorem natAbs_fmod_lt (a : Int) {b : Int} (h : b ≠ 0) : (a.fmod b).natAbs < b.natAbs := by
  rcases Int.lt_or_gt_of_ne h with hb | hb
  · have h1 : (-(a.fmod b)) = (-a).fmod (-b) := by
      rw [Int.fmod_def, Int.fmod_def, Int.neg_fdiv_neg]
      grind
    have h2 := Int.fmod_lt_of_pos (-a) (b := -b) (by omega)
    have h3 := Int.fmod_nonneg_of_pos (-a) (b := -b) (by omega)
    omega
  · have h2 := Int.fmod_lt_of_pos a hb
    have h3 := Int.fmod_nonneg_of_pos a hb
    omega
theorem common_ok {a b : Int} {Q : D → Prop} (h : Q (.int (Int.gcd a b : Nat))) : F_common [.int a, .int b] Q := by
  have key : ∀ (n : Nat) (a b : Int) (P : Po), b.natAbs < n → (∀ g : Int, g.natAbs = Int.gcd a b → P.nx [.va (.int g), .va (.int 0)]) →
      whileW (eT (eOp fNe (eVar 1) (eC (.int 0)))) (sPar 0 1 (aCons (eVar 1) (aCons (eOp fMod (eVar 0) (eVar 1)) aNil))) n [.va (.int a), .va (.int b)] P := by
    intro n
    induction n with
    | zero => intro a b P h; omega
    | succ n ih =>
      intro a b P hn hP
      unfold whileW
      kpt_turns
      refine ⟨okD_int _, okD_int _, ?_⟩
      rw [eqv_int]
      by_cases hb : b = 0
      · subst hb
        simp only [decide_true, Bool.not_true, Bool.false_eq_true, if_false]
        exact hP a (by simp)
      · simp only [hb, decide_false, Bool.not_false, if_true]
        refine ⟨fun z => hb z, ?_⟩
        exact ih b _ _ (by have := natAbs_fmod_lt a hb; omega) fun g hg => hP g (by rw [hg, gcd_step])
  unfold F_common
  kpt_turns
  refine ⟨b.natAbs + 1, key _ a b _ (by omega) fun g hg => ?_⟩
  kpt_turns
  have e : (if g < 0 then -g else g) = ((Int.gcd a b : Nat) : Int) := by
    rw [← hg]
    split <;> omega
  rw [e]
  exact h

/-! ### fractions -/
abbrev dr (q : Rat) : D := .tuple [.int q.num, .int (q.den : Nat)]
theorem okD_dr (q : Rat) : okD (dr q) := ⟨rfl, rfl⟩
theorem eqv_dr (p q : Rat) : PyData.eqv (dr p) (dr q) = decide (p = q) := by
  show ((p.num == q.num) && (((p.den : Int) == (q.den : Int)) && true)) = _
  by_cases h : p = q
  · subst h; simp
  · rw [decide_eq_false h]
    by_cases h1 : p.num = q.num
    · by_cases h2 : p.den = q.den
      · exact absurd (Rat.ext h1 h2) h
      · have : ((p.den : Int) == (q.den : Int)) = false := by
          rw [beq_eq_false_iff_ne]; omega
        rw [this]; simp
    · have : (p.num == q.num) = false := by rwa [beq_eq_false_iff_ne]
      rw [this]; simp
theorem isq (g : Int) : 0 ≤ g * g := by
  rcases Int.le_total 0 g with z | z
  · exact Int.mul_nonneg z z
  · exact Int.mul_nonneg_of_nonpos_of_nonpos z z
/-- the signed greatest part divides both; what is left is the fraction -/
theorem dr_of {n d g : Int} (hd : d ≠ 0) (hg : g.natAbs = Int.gcd n d) (hs : 0 < g * d) : PyData.tuple [.int (n.fdiv g), .int (d.fdiv g)] = dr (Rat.divInt n d) := by
  have h1 := Rat.num_divInt n d
  have h2 := Rat.den_divInt n d
  rw [if_neg hd] at h2
  rw [Int.gcd_comm] at h1 h2
  have hg0 : g ≠ 0 := fun z => by simp [z] at hs
  have gn : (g.natAbs : Int) ∣ n := by rw [hg]; exact Int.gcd_dvd_left ..
  have gd : (g.natAbs : Int) ∣ d := by rw [hg]; exact Int.gcd_dvd_right ..
  have gn' : g ∣ n := by rwa [Int.natAbs_dvd] at gn
  have gd' : g ∣ d := by rwa [Int.natAbs_dvd] at gd
  obtain ⟨x, hx⟩ := gn'
  obtain ⟨y, hy⟩ := gd'
  rw [← hg] at h1 h2
  have e1 : n.fdiv g = x := by rw [hx]; exact Int.mul_fdiv_cancel_left x hg0
  have e2 : d.fdiv g = y := by rw [hy]; exact Int.mul_fdiv_cancel_left y hg0
  have gpos : (0 : Int) < (g.natAbs : Int) := by omega
  rw [e1, e2]
  unfold dr
  rw [h1, h2]
  have hy0 : y ≠ 0 := fun z => hd (by rw [hy, z]; simp)
  have hyp : 0 < y := by
    rcases Int.lt_or_gt_of_ne hy0 with h | h
    · have : g * d ≤ 0 := by
        rw [hy, ← Int.mul_assoc]
        exact Int.mul_nonpos_of_nonneg_of_nonpos (isq g) (by omega)
      omega
    · exact h
  have e4 : d.natAbs / g.natAbs = y.natAbs := by
    rw [hy, Int.natAbs_mul]
    exact Nat.mul_div_cancel_left _ (by omega)
  have e3 : d.sign * n / (g.natAbs : Int) = x := by
    refine Int.ediv_eq_of_eq_mul_left (by omega) ?_
    rw [hx, hy, Int.sign_mul, Int.sign_eq_one_of_pos hyp, Int.mul_one, ← Int.mul_assoc, Int.sign_mul_self, Int.mul_comm]
  rw [e3, e4]
  have : ((y.natAbs : Nat) : Int) = y := by omega
  rw [this]
/-- few bits -/
def sm (k : Nat) (i : Int) : Prop := i.natAbs < 2 ^ k
def bz (k : Nat) (q : Rat) : Prop := sm k q.num ∧ q.den < 2 ^ k
theorem log2_sm {k : Nat} {i : Int} (h : sm k i) : i.natAbs.log2 ≤ k := by
  by_cases h0 : i.natAbs = 0
  · rw [h0]; simp
  · exact Nat.le_of_lt ((Nat.log2_lt h0).mpr h)
theorem sm_mono {k l : Nat} {i : Int} (h : sm k i) (hk : k ≤ l) : sm l i := Nat.lt_of_lt_of_le h (Nat.pow_le_pow_right (by decide) hk)
theorem sm_mul {k l : Nat} {i j : Int} (h : sm k i) (h' : sm l j) : sm (k + l) (i * j) := by
  unfold sm at *
  rw [Int.natAbs_mul, Nat.pow_add]
  exact Nat.mul_lt_mul_of_lt_of_lt h h'
theorem sm_add {k : Nat} {i j : Int} (h : sm k i) (h' : sm k j) : sm (k + 1) (i + j) := by
  unfold sm at *
  rw [Nat.pow_succ]
  have := Int.natAbs_add_le i j
  omega
theorem sm_neg {k : Nat} {i : Int} (h : sm k i) : sm k (-i) := by
  unfold sm at *
  rwa [Int.natAbs_neg]
theorem sm_sub {k : Nat} {i j : Int} (h : sm k i) (h' : sm k j) : sm (k + 1) (i - j) := by
  rw [Int.sub_eq_add_neg]; exact sm_add h (sm_neg h')
theorem cmul {k l : Nat} {i j : Int} (h : sm k i) (h' : sm l j) (hk : k + l < 1000000) : CMulW i j := by
  have := log2_sm h
  have := log2_sm h'
  unfold CMulW
  omega
theorem cdv {k : Nat} {i j : Int} (h : sm k j) (hj : j ≠ 0) (hk : k < 9000) : CDv i j := ⟨hj, by have := log2_sm h; omega⟩
theorem sm_den {k : Nat} {q : Rat} (h : bz k q) : sm k (q.den : Int) := by
  unfold sm; rw [Int.natAbs_natCast]; exact h.2
/-- what a fraction is written with bounds it -/
theorem bz_div {k : Nat} {n d : Int} (hd : d ≠ 0) (hn : sm k n) (hk : sm k d) : bz k (Rat.divInt n d) := by
  have h1 := Rat.num_divInt n d
  have h2 := Rat.den_divInt n d
  rw [if_neg hd] at h2
  refine ⟨?_, ?_⟩
  · unfold sm at *
    rw [h1]
    refine Nat.lt_of_le_of_lt ?_ hn
    rw [Int.natAbs_ediv_of_dvd (by
      have := Int.gcd_dvd_right (a := d) (b := n)
      exact Int.dvd_mul_of_dvd_right this)]
    refine Nat.le_trans (Nat.div_le_self _ _) ?_
    rw [Int.natAbs_mul, Int.natAbs_sign_of_ne_zero hd, Nat.one_mul]
    exact Nat.le_refl _
  · rw [h2]
    exact Nat.lt_of_le_of_lt (Nat.div_le_self _ _) hk
theorem fraction_ok {k : Nat} {n d : Int} {Q : D → Prop} (hd : d ≠ 0) (hk : sm k d) (h9 : k < 9000) (h : Q (dr (Rat.divInt n d))) : F_fraction [.int n, .int d] Q := by
  unfold F_fraction
  kpt_turns
  refine common_ok ?_
  have hg : (Int.gcd n d) ≠ 0 := fun z => hd (Int.gcd_eq_zero_iff.mp z).2
  have hgs : sm k (Int.gcd n d : Nat) := by
    unfold sm at *
    rw [Int.natAbs_natCast]
    exact Nat.lt_of_le_of_lt (Nat.le_of_dvd (by omega) (Int.gcd_dvd_natAbs_right ..)) hk
  by_cases hn : d < 0
  · simp only [hn, if_true, decide_true]
    refine ⟨cdv (sm_neg hgs) (by omega) h9, cdv (sm_neg hgs) (by omega) h9, by decide, ?_⟩
    rw [dr_of hd (by rw [Int.natAbs_neg, Int.natAbs_natCast]) (by have := Int.mul_pos_of_neg_of_neg (a := -((Int.gcd n d : Nat) : Int)) (b := d) (by omega) hn; exact this)]
    exact h
  · simp only [hn, if_false, decide_false, Bool.false_eq_true]
    refine ⟨cdv hgs (by omega) h9, cdv hgs (by omega) h9, by decide, ?_⟩
    rw [dr_of hd (by rw [Int.natAbs_natCast]) (Int.mul_pos (by omega) (by omega))]
    exact h


theorem bz_mono {k l : Nat} {q : Rat} (h : bz k q) (hk : k ≤ l) : bz l q := ⟨sm_mono h.1 hk, Nat.lt_of_lt_of_le h.2 (Nat.pow_le_pow_right (by decide) hk)⟩
theorem den_ne (q : Rat) : (q.den : Int) ≠ 0 := by
  have := q.den_nz
  omega
theorem num_ne {q : Rat} (h : q ≠ 0) : q.num ≠ 0 := fun z => h (Rat.num_eq_zero.mp z)
theorem add_div (p q : Rat) : Rat.divInt (p.num * q.den + q.num * p.den) (p.den * q.den) = p + q := by
  rw [Rat.add_def', ← Rat.divInt_ofNat, Int.natCast_mul]
theorem sub_div (p q : Rat) : Rat.divInt (p.num * q.den - q.num * p.den) (p.den * q.den) = p - q := by
  rw [Rat.sub_def', ← Rat.divInt_ofNat, Int.natCast_mul]
theorem mul_div (p q : Rat) : Rat.divInt (p.num * q.num) (p.den * q.den) = p * q := by
  rw [Rat.mul_def', ← Rat.divInt_ofNat, Int.natCast_mul]
theorem div_div (p q : Rat) : Rat.divInt (p.num * q.den) (p.den * q.num) = p / q := by
  rw [Rat.div_def, Rat.inv_def, ← Rat.divInt_mul_divInt, Rat.num_divInt_den]
theorem bz_add {k l : Nat} {p q : Rat} (h : bz k p) (h' : bz l q) : bz (k + l + 1) (p + q) := by
  rw [← add_div]
  refine bz_div (Int.mul_ne_zero (den_ne p) (den_ne q)) ?_ ?_
  · refine sm_add (sm_mul h.1 (sm_den h')) ?_
    rw [Nat.add_comm]; exact sm_mul h'.1 (sm_den h)
  · exact sm_mono (sm_mul (sm_den h) (sm_den h')) (by omega)
theorem bz_neg {k : Nat} {p : Rat} (h : bz k p) : bz k (-p) := ⟨sm_neg h.1, h.2⟩
theorem bz_sub {k l : Nat} {p q : Rat} (h : bz k p) (h' : bz l q) : bz (k + l + 1) (p - q) := by
  rw [Rat.sub_eq_add_neg]; exact bz_add h (bz_neg h')
theorem bz_mul {k l : Nat} {p q : Rat} (h : bz k p) (h' : bz l q) : bz (k + l) (p * q) := by
  rw [← mul_div]
  exact bz_div (Int.mul_ne_zero (den_ne p) (den_ne q)) (sm_mul h.1 h'.1) (sm_mul (sm_den h) (sm_den h'))
theorem bz_over {k l : Nat} {p q : Rat} (h : bz k p) (h' : bz l q) (hq : q ≠ 0) : bz (k + l) (p / q) := by
  rw [← div_div]
  exact bz_div (Int.mul_ne_zero (den_ne p) (num_ne hq)) (sm_mul h.1 (sm_den h')) (sm_mul (sm_den h) h'.1)

section
variable {k l : Nat} {p q : Rat} {Q : D → Prop}
theorem atI_0 (a b : D) : atI [a, b] 0 = some a := rfl
theorem atI_1 (a b : D) : atI [a, b] 1 = some b := rfl
theorem at3_0 (a b c : D) : atI [a, b, c] 0 = some a := rfl
theorem at3_1 (a b c : D) : atI [a, b, c] 1 = some b := rfl
theorem at3_2 (a b c : D) : atI [a, b, c] 2 = some c := rfl
local macro_rules | `(tactic| kpc_turns) => `(tactic| (kpt_turns; try simp only [atI_0, atI_1, at3_0, at3_1, at3_2]))
theorem sp_added (h : bz k p) (h' : bz l q) (hk : k + l < 8000) (hQ : Q (dr (p + q))) : F_added [dr p, dr q] Q := by
  unfold F_added
  kpc_turns
  refine ⟨cmul h.1 (sm_den h') (by omega), cmul h'.1 (sm_den h) (by omega), cmul (sm_den h) (sm_den h') (by omega), ?_⟩
  refine fraction_ok (Int.mul_ne_zero (den_ne p) (den_ne q)) (sm_mul (sm_den h) (sm_den h')) (by omega) ?_
  rw [add_div]; exact hQ
local macro_rules | `(tactic| dl_keeps) => `(tactic| (with_reducible apply sp_added; (focus pv_meta); (focus pv_meta); (focus pv_meta)))
theorem sp_minus (h : bz k p) (h' : bz l q) (hk : k + l < 8000) (hQ : Q (dr (p - q))) : F_minus [dr p, dr q] Q := by
  unfold F_minus
  kpc_turns
  refine ⟨cmul h.1 (sm_den h') (by omega), cmul h'.1 (sm_den h) (by omega), cmul (sm_den h) (sm_den h') (by omega), ?_⟩
  refine fraction_ok (Int.mul_ne_zero (den_ne p) (den_ne q)) (sm_mul (sm_den h) (sm_den h')) (by omega) ?_
  rw [sub_div]; exact hQ
local macro_rules | `(tactic| dl_keeps) => `(tactic| (with_reducible apply sp_minus; (focus pv_meta); (focus pv_meta); (focus pv_meta)))
theorem sp_times (h : bz k p) (h' : bz l q) (hk : k + l < 8000) (hQ : Q (dr (p * q))) : F_times [dr p, dr q] Q := by
  unfold F_times
  kpc_turns
  refine ⟨cmul h.1 h'.1 (by omega), cmul (sm_den h) (sm_den h') (by omega), ?_⟩
  refine fraction_ok (Int.mul_ne_zero (den_ne p) (den_ne q)) (sm_mul (sm_den h) (sm_den h')) (by omega) ?_
  rw [mul_div]; exact hQ
local macro_rules | `(tactic| dl_keeps) => `(tactic| (with_reducible apply sp_times; (focus pv_meta); (focus pv_meta); (focus pv_meta)))
theorem sp_over (h : bz k p) (h' : bz l q) (hq : q ≠ 0) (hk : k + l < 8000) (hQ : Q (dr (p / q))) : F_over [dr p, dr q] Q := by
  unfold F_over
  kpc_turns
  refine ⟨cmul h.1 (sm_den h') (by omega), cmul (sm_den h) h'.1 (by omega), ?_⟩
  refine fraction_ok (Int.mul_ne_zero (den_ne p) (num_ne hq)) (sm_mul (sm_den h) h'.1) (by omega) ?_
  rw [div_div]; exact hQ
local macro_rules | `(tactic| dl_keeps) => `(tactic| (with_reducible apply sp_over; (focus pv_meta); (focus pv_meta); (focus pv_meta); (focus pv_meta)))
theorem sp_turned (hQ : Q (dr (-p))) : F_turned [dr p] Q := by
  unfold F_turned
  kpc_turns
  exact ⟨by decide, hQ⟩
local macro_rules | `(tactic| dl_keeps) => `(tactic| (with_reducible apply sp_turned))
theorem dr_sq (p : Rat) : PyData.tuple [.int (p.num * p.num), .int ((p.den : Int) * (p.den : Int))] = dr (p * p) := by
  have e : p * p = p ^ 2 := by rw [Rat.pow_succ, Rat.pow_one]
  have h1 : (p * p).num = p.num * p.num := by rw [e, Rat.num_pow]; exact Int.pow_succ _ _ |>.trans (by rw [Int.pow_succ, Int.pow_zero, Int.one_mul])
  have h2 : (p * p).den = p.den * p.den := by rw [e, Rat.den_pow]; exact Nat.pow_succ .. |>.trans (by rw [Nat.pow_one])
  unfold dr
  rw [h1, h2, Int.natCast_mul]
theorem sp_square (h : bz k p) (hk : k < 8000) (hQ : Q (dr (p * p))) : F_square [dr p] Q := by
  unfold F_square
  kpc_turns
  refine ⟨cmul h.1 h.1 (by omega), cmul (sm_den h) (sm_den h) (by omega), by decide, ?_⟩
  rw [dr_sq]; exact hQ
local macro_rules | `(tactic| dl_keeps) => `(tactic| (with_reducible apply sp_square; (focus pv_meta); (focus pv_meta)))
theorem sm_2 : sm 2 2 := by unfold sm; decide
theorem bz_2 : bz 2 2 := ⟨by unfold sm; decide, by decide⟩
theorem sp_half (h : bz k p) (hk : k < 8000) (hQ : Q (dr (p / 2))) : F_half [dr p] Q := by
  unfold F_half
  kpc_turns
  refine ⟨cmul sm_2 (sm_den h) (by omega), ?_⟩
  refine fraction_ok (Int.mul_ne_zero (by decide) (den_ne p)) (sm_mul sm_2 (sm_den h)) (by omega) ?_
  have e := div_div p 2
  rw [show ((2 : Rat).num) = 2 from rfl, show ((2 : Rat).den : Int) = 1 from rfl, Int.mul_one, Int.mul_comm] at e
  rw [e]; exact hQ
local macro_rules | `(tactic| dl_keeps) => `(tactic| (with_reducible apply sp_half; (focus pv_meta); (focus pv_meta)))
theorem sp_sign (hQ : Q (.int p.num.sign)) : F_sign [dr p] Q := by
  unfold F_sign F_sign_of
  kpc_turns
  have e : ((if decide (0 < p.num) = true then 1 else 0) - (if decide (p.num < 0) = true then 1 else 0) : Int) = p.num.sign := by
    rcases Int.lt_trichotomy p.num 0 with h | h | h
    · rw [Int.sign_eq_neg_one_of_neg h, decide_eq_true h, decide_eq_false (by omega)]; rfl
    · rw [h]; rfl
    · rw [Int.sign_eq_one_of_pos h, decide_eq_true h, decide_eq_false (by omega)]; rfl
  simp only [decide_eq_true_eq] at e
  rw [e]; exact hQ
local macro_rules | `(tactic| dl_keeps) => `(tactic| (with_reducible apply sp_sign))
/-! ### the law's own fractions -/
theorem step_int (a b : Nat) : ((a : Nat) : Int) - ((a : Nat) : Int).fdiv (b : Nat) * ((b : Nat) : Int) = ((a % b : Nat) : Int) := by
  rw [← Int.ofNat_fdiv]
  have := Nat.div_add_mod a b
  have e : (a : Int) = ((a / b * b + a % b : Nat) : Int) := by rw [Nat.mul_comm, this]
  rw [Int.natCast_add, Int.natCast_mul] at e
  omega
theorem frac_loop : ∀ (ds : List D) (a b m k : Nat) (u v s : Sl) (P : Po), b ≤ a → a * b < 2 ^ m → b < 2 ^ k → k < 9000 → m < 100000 → m < ds.length → (∀ s', P.nx [u, v, .va (.int (Nat.gcd a b : Nat)), .va (.int 0), s']) →
    forW (mgName 4) (sSeq (sIf (eT (eOp fEq (eVar 3) (eC (.int 0)))) sBreak sNext) (sPar 2 3 (aCons (eVar 3) (aCons (eOp fSub (eVar 2) (eOp fMul (eOp fDiv (eVar 2) (eVar 3)) (eVar 3))) aNil)))) ds [u, v, .va (.int (a : Nat)), .va (.int (b : Nat)), s] P
  | [], a, b, m, k, u, v, s, P, _, _, _, _, _, h, _ => by simp at h
  | d :: ds, a, b, m, k, u, v, s, P, hba, hm, hb, hk, hm1, hl, hP => by
    unfold forW
    kpc_turns
    refine ⟨okD_int _, okD_int _, ?_⟩
    rw [eqv_int]
    by_cases h0 : b = 0
    · subst h0
      simp only [Int.natCast_zero, decide_true, if_true]
      simpa using hP (.va d)
    · have h0' : ¬ ((b : Nat) : Int) = 0 := by omega
      simp only [h0', decide_false, Bool.false_eq_true, if_false]
      have ha : a < 2 ^ m := Nat.lt_of_le_of_lt (Nat.le_mul_of_pos_right a (by omega)) hm
      refine ⟨⟨h0', ?_⟩, ?_, ?_⟩
      · exact Nat.lt_of_le_of_lt (log2_sm (k := k) (by unfold sm; rw [Int.natAbs_natCast]; exact hb)) hk
      · rw [← Int.ofNat_fdiv]
        exact cmul (k := m) (l := k) (by unfold sm; rw [Int.natAbs_natCast]; exact Nat.lt_of_le_of_lt (Nat.div_le_self _ _) ha) (by unfold sm; rw [Int.natAbs_natCast]; exact hb) (by omega)
      · rw [step_int]
        have hr : a % b < b := Nat.mod_lt _ (by omega)
        have h2 : 2 * (a % b) ≤ a := by
          have h3 := Nat.div_add_mod a b
          have h4 : 1 ≤ a / b := Nat.div_pos hba (by omega)
          have h5 : b * 1 ≤ b * (a / b) := Nat.mul_le_mul_left b h4
          omega
        have h6 : b * (a % b) * 2 ≤ a * b := by
          rw [Nat.mul_assoc, Nat.mul_comm (a % b) 2, Nat.mul_comm a b]
          exact Nat.mul_le_mul_left b h2
        cases m with
        | zero =>
          simp at hm
          omega
        | succ m =>
          refine frac_loop ds b (a % b) m k u v _ P (Nat.le_of_lt hr) (by rw [Nat.pow_succ] at hm; omega) (by omega) hk (by omega) (by simpa using hl) fun s' => ?_
          have e : Nat.gcd b (a % b) = Nat.gcd a b := by rw [Nat.gcd_comm b, ← Nat.gcd_rec, Nat.gcd_comm]
          rw [e]
          exact hP s'
theorem rngD_succ (n : Nat) : rngD 0 (n + 1) = .int 0 :: (List.range n).map fun i : Nat => PyData.int (0 + ((i + 1 : Nat) : Int)) := by
  unfold rngD
  rw [List.range_succ_eq_map, List.map_cons, List.map_map]
  rfl
theorem natAbs_if (n : Int) : (if n < 0 then -n else n) = ((n.natAbs : Nat) : Int) := by split <;> omega
end
local macro_rules | `(tactic| kpc_turns) => `(tactic| (kpt_turns; try simp only [atI_0, atI_1, at3_0, at3_1, at3_2]))
local macro_rules | `(tactic| dl_keeps) => `(tactic| (with_reducible apply sp_added; (focus pv_meta); (focus pv_meta); (focus pv_meta)))
local macro_rules | `(tactic| dl_keeps) => `(tactic| (with_reducible apply sp_minus; (focus pv_meta); (focus pv_meta); (focus pv_meta)))
local macro_rules | `(tactic| dl_keeps) => `(tactic| (with_reducible apply sp_times; (focus pv_meta); (focus pv_meta); (focus pv_meta)))
local macro_rules | `(tactic| dl_keeps) => `(tactic| (with_reducible apply sp_over; (focus pv_meta); (focus pv_meta); (focus pv_meta); (focus pv_meta)))
local macro_rules | `(tactic| dl_keeps) => `(tactic| (with_reducible apply sp_turned))
local macro_rules | `(tactic| dl_keeps) => `(tactic| (with_reducible apply sp_square; (focus pv_meta); (focus pv_meta)))
local macro_rules | `(tactic| dl_keeps) => `(tactic| (with_reducible apply sp_half; (focus pv_meta); (focus pv_meta)))
local macro_rules | `(tactic| dl_keeps) => `(tactic| (with_reducible apply sp_sign))


/-! ### reals, as far as they are needed: rows of fractions that draw together -/
structure Cs where
  f : Nat → Rat
  bd : ∃ B : Rat, 0 < B ∧ ∀ n, -B ≤ f n ∧ f n ≤ B
  cau : ∀ ε : Rat, 0 < ε → ∃ N, ∀ m n, N ≤ m → N ≤ n → f m - f n ≤ ε
namespace Cs
theorem max_le {M N n : Nat} (h : M + N ≤ n) : M ≤ n ∧ N ≤ n := ⟨by omega, by omega⟩
def cst (q : Rat) : Cs := ⟨fun _ => q, ⟨(if q < 0 then -q else q) + 1, by grind, fun _ => by grind⟩, fun ε h => ⟨0, fun _ _ _ _ => by grind⟩⟩
def add (x y : Cs) : Cs := ⟨fun n => x.f n + y.f n, by
  obtain ⟨B, hB, h⟩ := x.bd
  obtain ⟨C, hC, g⟩ := y.bd
  exact ⟨B + C, by grind, fun n => by have := h n; have := g n; grind⟩, fun ε hε => by
  obtain ⟨N, h⟩ := x.cau (ε / 2) (by grind)
  obtain ⟨M, g⟩ := y.cau (ε / 2) (by grind)
  refine ⟨N + M, fun m n hm hn => ?_⟩
  have := h m n (by omega) (by omega)
  have := g m n (by omega) (by omega)
  grind⟩
def neg (x : Cs) : Cs := ⟨fun n => -x.f n, by
  obtain ⟨B, hB, h⟩ := x.bd
  exact ⟨B, hB, fun n => by have := h n; grind⟩, fun ε hε => by
  obtain ⟨N, h⟩ := x.cau ε hε
  exact ⟨N, fun m n hm hn => by have := h n m hn hm; grind⟩⟩
theorem mul_bd {a b B C : Rat} (hB : 0 < B) (hC : 0 < C) (h1 : -B ≤ a) (h2 : a ≤ B) (h3 : -C ≤ b) (h4 : b ≤ C) : -(B * C) ≤ a * b ∧ a * b ≤ B * C := by
  have e1 : 0 ≤ (B - a) * (C + b) := Rat.mul_nonneg (by grind) (by grind)
  have e2 : 0 ≤ (B + a) * (C - b) := Rat.mul_nonneg (by grind) (by grind)
  have e3 : 0 ≤ (B - a) * (C - b) := Rat.mul_nonneg (by grind) (by grind)
  have e4 : 0 ≤ (B + a) * (C + b) := Rat.mul_nonneg (by grind) (by grind)
  constructor <;> grind
def mul (x y : Cs) : Cs := ⟨fun n => x.f n * y.f n, by
  obtain ⟨B, hB, h⟩ := x.bd
  obtain ⟨C, hC, g⟩ := y.bd
  exact ⟨B * C, Rat.mul_pos hB hC, fun n => mul_bd hB hC (h n).1 (h n).2 (g n).1 (g n).2⟩, fun ε hε => by
  obtain ⟨B, hB, hb⟩ := x.bd
  obtain ⟨C, hC, gb⟩ := y.bd
  have hd : 0 < ε / (2 * (B + C)) := by
    rw [Rat.div_def]
    exact Rat.mul_pos hε (Rat.inv_pos.mpr (by grind))
  obtain ⟨N, h⟩ := x.cau (ε / (2 * (B + C))) hd
  obtain ⟨M, g⟩ := y.cau (ε / (2 * (B + C))) hd
  refine ⟨N + M, fun m n hm hn => ?_⟩
  have h1 := h m n (by omega) (by omega)
  have h2 := h n m (by omega) (by omega)
  have g1 := g m n (by omega) (by omega)
  have g2 := g n m (by omega) (by omega)
  generalize hδ : ε / (2 * (B + C)) = δ at *
  have e : δ * (2 * (B + C)) = ε := by rw [← hδ]; exact Rat.div_mul_cancel (by grind)
  have k1 := (mul_bd hB hd (hb m).1 (hb m).2 (show -δ ≤ y.f m - y.f n by grind) g1).2
  have k2 := (mul_bd hC hd (gb n).1 (gb n).2 (show -δ ≤ x.f m - x.f n by grind) h1).2
  have e2 : x.f m * y.f m - x.f n * y.f n = x.f m * (y.f m - y.f n) + y.f n * (x.f m - x.f n) := by grind
  rw [e2]
  grind⟩
def Pos (x : Cs) : Prop := ∃ ε : Rat, 0 < ε ∧ ∃ N, ∀ n, N ≤ n → ε ≤ x.f n
def Null (x : Cs) : Prop := ∀ ε : Rat, 0 < ε → ∃ N, ∀ n, N ≤ n → -ε ≤ x.f n ∧ x.f n ≤ ε
theorem tri (x : Cs) : Pos x ∨ Null x ∨ Pos (neg x) := by
  by_cases h : Null x
  · exact .inr (.inl h)
  unfold Null at h
  simp only [Classical.not_forall] at h
  obtain ⟨ε, hε, h⟩ := h
  obtain ⟨N, c⟩ := x.cau (ε / 2) (by grind)
  have h2 : ∃ n, N ≤ n ∧ ¬ (-ε ≤ x.f n ∧ x.f n ≤ ε) := by
    refine Classical.byContradiction fun z => h ⟨N, fun n hn => ?_⟩
    exact Classical.byContradiction fun y => z ⟨n, hn, y⟩
  obtain ⟨n, hn, h3⟩ := h2
  by_cases h4 : x.f n ≤ ε
  · refine .inr (.inr ⟨ε / 2, by grind, N, fun m hm => ?_⟩)
    show ε / 2 ≤ -x.f m
    have := c m n hm hn
    have := c n m hn hm
    grind
  · refine .inl ⟨ε / 2, by grind, N, fun m hm => ?_⟩
    have := c m n hm hn
    have := c n m hn hm
    grind
theorem pos_null {x : Cs} (h : Pos x) : ¬ Null x := fun g => by
  obtain ⟨ε, hε, N, h⟩ := h
  obtain ⟨M, g⟩ := g (ε / 2) (by grind)
  have := h (N + M) (by omega)
  have := (g (N + M) (by omega)).2
  grind
theorem pos_neg {x : Cs} (h : Pos x) : ¬ Pos (neg x) := fun g => by
  obtain ⟨ε, hε, N, h⟩ := h
  obtain ⟨δ, hδ, M, g⟩ := g
  have := h (N + M) (by omega)
  have : δ ≤ -x.f (N + M) := g (N + M) (by omega)
  grind
theorem pos_add {x y : Cs} (h : Pos x) (g : Pos y) : Pos (add x y) := by
  obtain ⟨ε, hε, N, h⟩ := h
  obtain ⟨δ, hδ, M, g⟩ := g
  refine ⟨ε + δ, by grind, N + M, fun n hn => ?_⟩
  show ε + δ ≤ x.f n + y.f n
  have := h n (by omega)
  have := g n (by omega)
  grind
theorem pos_mul {x y : Cs} (h : Pos x) (g : Pos y) : Pos (mul x y) := by
  obtain ⟨ε, hε, N, h⟩ := h
  obtain ⟨δ, hδ, M, g⟩ := g
  refine ⟨ε * δ, Rat.mul_pos hε hδ, N + M, fun n hn => ?_⟩
  show ε * δ ≤ x.f n * y.f n
  have h1 := h n (by omega)
  have g1 := g n (by omega)
  have e1 : 0 ≤ (x.f n - ε) * δ := Rat.mul_nonneg (by grind) (by grind)
  have e2 : 0 ≤ x.f n * (y.f n - δ) := Rat.mul_nonneg (by grind) (by grind)
  grind
theorem pos_of {x y : Cs} (h : Pos x) (g : Null (add x (neg y))) : Pos y := by
  obtain ⟨ε, hε, N, h⟩ := h
  obtain ⟨M, g⟩ := g (ε / 2) (by grind)
  refine ⟨ε / 2, by grind, N + M, fun n hn => ?_⟩
  have := h n (by omega)
  have : x.f n + -y.f n ≤ ε / 2 := (g n (by omega)).2
  grind
theorem null_of {x y : Cs} (e : ∀ n, x.f n = y.f n) : Null (add x (neg y)) := fun ε hε => ⟨0, fun n _ => by
  have : (add x (neg y)).f n = x.f n + -y.f n := rfl
  rw [this, e n]
  grind⟩
theorem null_neg {x : Cs} (h : Null x) : Null (neg x) := fun ε hε => by
  obtain ⟨N, h⟩ := h ε hε
  refine ⟨N, fun n hn => ?_⟩
  have := h n hn
  show -ε ≤ -x.f n ∧ -x.f n ≤ ε
  grind
theorem null_add {x y : Cs} (h : Null x) (g : Null y) : Null (add x y) := fun ε hε => by
  obtain ⟨N, h⟩ := h (ε / 2) (by grind)
  obtain ⟨M, g⟩ := g (ε / 2) (by grind)
  refine ⟨N + M, fun n hn => ?_⟩
  have := h n (by omega)
  have := g n (by omega)
  show -ε ≤ x.f n + y.f n ∧ x.f n + y.f n ≤ ε
  grind
theorem null_mul {x y : Cs} (h : Null x) : Null (mul x y) := fun ε hε => by
  obtain ⟨B, hB, hb⟩ := y.bd
  have hd : 0 < ε / B := by
    rw [Rat.div_def]
    exact Rat.mul_pos hε (Rat.inv_pos.mpr hB)
  obtain ⟨N, h⟩ := h (ε / B) hd
  refine ⟨N, fun n hn => ?_⟩
  have e : ε / B * B = ε := Rat.div_mul_cancel (by grind)
  have := mul_bd hd hB (h n hn).1 (h n hn).2 (hb n).1 (hb n).2
  rw [e] at this
  exact this
theorem null_congr {x y : Cs} (h : Null x) (e : ∀ n, x.f n = y.f n) : Null y := fun ε hε => by
  obtain ⟨N, h⟩ := h ε hε
  exact ⟨N, fun n hn => by rw [← e n]; exact h n hn⟩
instance st : Setoid Cs where
  r x y := Null (add x (neg y))
  iseqv := ⟨fun x => null_of fun _ => rfl, fun {x y} h => null_congr (null_neg h) fun n => by show -(x.f n + -y.f n) = y.f n + -x.f n; grind, fun {x y z} h g => null_congr (null_add h g) fun n => by
    show x.f n + -y.f n + (y.f n + -z.f n) = x.f n + -z.f n
    grind⟩
theorem add_congr {x x' y y' : Cs} (h : x ≈ x') (g : y ≈ y') : add x y ≈ add x' y' := null_congr (null_add h g) fun n => by
  show x.f n + -x'.f n + (y.f n + -y'.f n) = x.f n + y.f n + -(x'.f n + y'.f n)
  grind
theorem neg_congr {x x' : Cs} (h : x ≈ x') : neg x ≈ neg x' := null_congr (null_neg h) fun n => by
  show -(x.f n + -x'.f n) = -x.f n + -(-x'.f n)
  grind
theorem mul_congr {x x' y y' : Cs} (h : x ≈ x') (g : y ≈ y') : mul x y ≈ mul x' y' := null_congr (null_add (null_mul (y := y) h) (null_mul (y := x') g)) fun n => by
  show (x.f n + -x'.f n) * y.f n + (y.f n + -y'.f n) * x'.f n = x.f n * y.f n + -(x'.f n * y'.f n)
  grind
theorem pos_congr {x y : Cs} (h : x ≈ y) : Pos x = Pos y := propext ⟨fun a => pos_of a h, fun a => pos_of a (st.iseqv.symm h)⟩
end Cs
def Rl : Type := Quotient Cs.st
namespace Rl
def mk (x : Cs) : Rl := Quotient.mk _ x
theorem ind {P : Rl → Prop} (h : ∀ x, P (mk x)) : ∀ x, P x := fun x => Quotient.ind h x
theorem eq_of {x y : Cs} (e : ∀ n, x.f n = y.f n) : mk x = mk y := Quotient.sound (Cs.null_of e)
def q (r : Rat) : Rl := mk (Cs.cst r)
def add : Rl → Rl → Rl := Quotient.lift₂ (fun x y => mk (Cs.add x y)) fun _ _ _ _ h g => Quotient.sound (Cs.add_congr h g)
def mul : Rl → Rl → Rl := Quotient.lift₂ (fun x y => mk (Cs.mul x y)) fun _ _ _ _ h g => Quotient.sound (Cs.mul_congr h g)
def neg : Rl → Rl := Quotient.lift (fun x => mk (Cs.neg x)) fun _ _ h => Quotient.sound (Cs.neg_congr h)
def Pos : Rl → Prop := Quotient.lift Cs.Pos fun _ _ h => Cs.pos_congr h
def lt (x y : Rl) : Prop := Pos (add y (neg x))
instance : LT Rl := ⟨lt⟩
instance : LE Rl := ⟨fun x y => ¬ lt y x⟩
def npow (x : Rl) : Nat → Rl
  | 0 => q 1
  | n + 1 => mul (npow x n) x
instance : Lean.Grind.CommRing Rl where
  add := add
  mul := mul
  neg := neg
  sub x y := add x (neg y)
  natCast := ⟨fun n => q n⟩
  intCast := ⟨fun n => q n⟩
  ofNat n := ⟨q n⟩
  nsmul := ⟨fun n x => mul (q n) x⟩
  zsmul := ⟨fun n x => mul (q n) x⟩
  npow := ⟨npow⟩
  add_zero := ind fun x => eq_of fun n => by show x.f n + ((0 : Nat) : Rat) = x.f n; grind
  add_comm := ind fun x => ind fun y => eq_of fun n => by show x.f n + y.f n = y.f n + x.f n; grind
  add_assoc := ind fun x => ind fun y => ind fun z => eq_of fun n => by show x.f n + y.f n + z.f n = x.f n + (y.f n + z.f n); grind
  mul_assoc := ind fun x => ind fun y => ind fun z => eq_of fun n => by show x.f n * y.f n * z.f n = x.f n * (y.f n * z.f n); grind
  mul_comm := ind fun x => ind fun y => eq_of fun n => by show x.f n * y.f n = y.f n * x.f n; grind
  mul_one := ind fun x => eq_of fun n => by show x.f n * ((1 : Nat) : Rat) = x.f n; grind
  one_mul := ind fun x => eq_of fun n => by show ((1 : Nat) : Rat) * x.f n = x.f n; grind
  left_distrib := ind fun x => ind fun y => ind fun z => eq_of fun n => by show x.f n * (y.f n + z.f n) = x.f n * y.f n + x.f n * z.f n; grind
  right_distrib := ind fun x => ind fun y => ind fun z => eq_of fun n => by show (x.f n + y.f n) * z.f n = x.f n * z.f n + y.f n * z.f n; grind
  zero_mul := ind fun x => eq_of fun n => by show ((0 : Nat) : Rat) * x.f n = ((0 : Nat) : Rat); grind
  mul_zero := ind fun x => eq_of fun n => by show x.f n * ((0 : Nat) : Rat) = ((0 : Nat) : Rat); grind
  pow_zero x := eq_of fun n => by show (1 : Rat) = ((1 : Nat) : Rat); rfl
  pow_succ x n := rfl
  ofNat_succ n := eq_of fun _ => by show ((n + 1 : Nat) : Rat) = (n : Rat) + ((1 : Nat) : Rat); rw [Rat.natCast_add]
  neg_add_cancel := ind fun x => eq_of fun n => by show -x.f n + x.f n = ((0 : Nat) : Rat); grind
  sub_eq_add_neg _ _ := rfl
  neg_zsmul i := ind fun x => eq_of fun n => by show ((-i : Int) : Rat) * x.f n = -((i : Rat) * x.f n); rw [Rat.intCast_neg]; grind
  intCast_neg i := eq_of fun n => by show ((-i : Int) : Rat) = -(i : Rat); rw [Rat.intCast_neg]
theorem lt_def (x y : Rl) : x < y ↔ Pos (y - x) := Iff.rfl
theorem le_def (x y : Rl) : x ≤ y ↔ ¬ y < x := Iff.rfl
theorem tri (x : Rl) : Pos x ∨ x = 0 ∨ Pos (-x) := by
  revert x
  refine ind fun x => ?_
  rcases Cs.tri x with h | h | h
  · exact .inl h
  · refine .inr (.inl (Quotient.sound ?_))
    exact Cs.null_congr h fun n => by show x.f n = x.f n + -((0 : Nat) : Rat); grind
  · exact .inr (.inr h)
theorem pos_neg {x : Rl} : Pos x → ¬ Pos (-x) := ind (P := fun x => Pos x → ¬ Pos (-x)) (fun x => Cs.pos_neg) x
theorem pos_zero : ¬ Pos (0 : Rl) := fun h => by
  have := pos_neg h
  rw [show -(0 : Rl) = 0 by grind] at this
  exact this h
theorem pos_add {x y : Rl} : Pos x → Pos y → Pos (x + y) := ind (P := fun x => ∀ y, Pos x → Pos y → Pos (x + y)) (fun x => ind fun y => Cs.pos_add) x y
theorem pos_mul {x y : Rl} : Pos x → Pos y → Pos (x * y) := ind (P := fun x => ∀ y, Pos x → Pos y → Pos (x * y)) (fun x => ind fun y => Cs.pos_mul) x y
theorem lt_tri (x y : Rl) : x < y ∨ x = y ∨ y < x := by
  rcases tri (y - x) with h | h | h
  · exact .inl h
  · exact .inr (.inl (by grind))
  · refine .inr (.inr ?_)
    rw [lt_def, show x - y = -(y - x) by grind]
    exact h
theorem lt_irrefl (x : Rl) : ¬ x < x := fun h => by
  rw [lt_def, show x - x = 0 by grind] at h
  exact pos_zero h
theorem lt_trans {x y z : Rl} (h : x < y) (g : y < z) : x < z := by
  rw [lt_def] at *
  have := pos_add h g
  rw [show y - x + (z - y) = z - x by grind] at this
  exact this
theorem lt_asymm {x y : Rl} (h : x < y) : ¬ y < x := fun g => lt_irrefl x (lt_trans h g)
theorem le_iff {x y : Rl} : x ≤ y ↔ x < y ∨ x = y := by
  rw [le_def]
  constructor
  · intro h
    rcases lt_tri x y with a | a | a
    · exact .inl a
    · exact .inr a
    · exact (h a).elim
  · rintro (h | rfl)
    · exact lt_asymm h
    · exact lt_irrefl x
instance : Std.IsLinearOrder Rl where
  le_refl x := lt_irrefl x
  le_trans x y z h g := by
    rcases le_iff.mp h with h | rfl
    · rcases le_iff.mp g with g | rfl
      · exact le_iff.mpr (.inl (lt_trans h g))
      · exact le_iff.mpr (.inl h)
    · exact g
  le_antisymm x y h g := by
    rcases lt_tri x y with a | a | a
    · exact (g a).elim
    · exact a
    · exact (h a).elim
  le_total x y := by
    rcases lt_tri x y with a | a | a
    · exact .inl (le_iff.mpr (.inl a))
    · exact .inl (le_iff.mpr (.inr a))
    · exact .inr (le_iff.mpr (.inl a))
instance : Std.LawfulOrderLT Rl where
  lt_iff x y := ⟨fun h => ⟨lt_asymm h, fun g => g h⟩, fun h => Classical.byContradiction fun z => h.2 z⟩
theorem add_lt {x y : Rl} (z : Rl) : x < y ↔ x + z < y + z := by
  rw [lt_def, lt_def, show y + z - (x + z) = y - x by grind]
instance : Lean.Grind.OrderedAdd Rl where
  add_le_left_iff {x y} z := by rw [le_def, le_def, add_lt z]
theorem mul_lt {x y z : Rl} (h : x < y) (hz : 0 < z) : z * x < z * y := by
  rw [lt_def] at *
  rw [show z - 0 = z by grind] at hz
  rw [show z * y - z * x = z * (y - x) by grind]
  exact pos_mul hz h
theorem q_pos {r : Rat} : Pos (q r) ↔ 0 < r := by
  constructor
  · rintro ⟨ε, hε, N, h⟩
    have : ε ≤ r := h N (Nat.le_refl _)
    grind
  · intro h
    exact ⟨r, h, 0, fun _ _ => Rat.le_refl⟩
theorem q_add (r s : Rat) : q (r + s) = q r + q s := eq_of fun _ => rfl
theorem q_mul (r s : Rat) : q (r * s) = q r * q s := eq_of fun _ => rfl
theorem q_neg (r : Rat) : q (-r) = -q r := eq_of fun _ => rfl
theorem q_sub (r s : Rat) : q (r - s) = q r - q s := eq_of fun _ => by show r - s = r + -s; grind
theorem q_nat (n : Nat) : q ((n : Nat) : Rat) = ((OfNat.ofNat n : Rl)) := rfl
theorem q_zero : q 0 = 0 := rfl
theorem q_one : q 1 = 1 := rfl
theorem q_two : q 2 = 2 := rfl
instance : Lean.Grind.OrderedRing Rl where
  zero_lt_one := by
    rw [lt_def, ← q_one, ← q_zero, ← q_sub]
    exact q_pos.mpr (by grind)
  mul_lt_mul_of_pos_left := mul_lt
  mul_lt_mul_of_pos_right {a b c} h hz := by
    have := mul_lt h hz
    rw [show a * c = c * a by grind, show b * c = c * b by grind]
    exact this
theorem q_lt {r s : Rat} : q r < q s ↔ r < s := by
  rw [lt_def, ← q_sub, q_pos]
  grind
theorem q_le {r s : Rat} : q r ≤ q s ↔ r ≤ s := by
  rw [le_def, q_lt]
  grind
theorem q_inj {r s : Rat} : q r = q s ↔ r = s := by
  constructor
  · intro h
    have h1 : q r ≤ q s := by grind
    have h2 : q s ≤ q r := by grind
    rw [q_le] at h1 h2
    grind
  · intro h; rw [h]
end Rl

/-! ### square roots of fractions -/
namespace Cs
theorem root_ex (t : Rat) (h : 0 ≤ t) : ∃ k : Nat, (k : Rat) * (k : Rat) ≤ t ∧ t < ((k : Rat) + 1) * ((k : Rat) + 1) := by
  have key : ∀ N : Nat, t < (N : Rat) * (N : Rat) → ∃ k : Nat, (k : Rat) * (k : Rat) ≤ t ∧ t < ((k : Rat) + 1) * ((k : Rat) + 1) := by
    intro N
    induction N with
    | zero => intro z; grind
    | succ N ih =>
      intro z
      by_cases g : t < (N : Rat) * (N : Rat)
      · exact ih g
      · exact ⟨N, by grind, by rw [Rat.natCast_add] at z; exact z⟩
  refine key (t.num.natAbs + 1) ?_
  have e : t ≤ (t.num.natAbs : Rat) := by
    rw [Rat.le_iff]
    have h1 : 0 ≤ t.num := Rat.num_nonneg.mpr h
    show t.num * 1 ≤ ((t.num.natAbs : Nat) : Int) * (t.den : Int)
    have h2 : ((t.num.natAbs : Nat) : Int) = t.num := by omega
    rw [h2]
    exact Int.mul_le_mul_of_nonneg_left (by have := t.den_pos; omega) h1
  have n0 : (0 : Rat) ≤ (t.num.natAbs : Rat) := by grind
  rw [Rat.natCast_add]
  generalize ((t.num.natAbs : Nat) : Rat) = M at *
  have e2 : 0 ≤ M * M := Rat.mul_nonneg n0 n0
  have e3 : ((1 : Nat) : Rat) = 1 := rfl
  rw [e3]
  grind
def hf : Nat → Rat
  | 0 => 1
  | n + 1 => hf n / 2
theorem hf_pos : ∀ n, 0 < hf n
  | 0 => by show (0 : Rat) < 1; grind
  | n + 1 => by have := hf_pos n; show 0 < hf n / 2; grind
theorem hf_le : ∀ {m n : Nat}, m ≤ n → hf n ≤ hf m := by
  intro m n h
  induction n with
  | zero => rw [show m = 0 by omega]; grind
  | succ n ih =>
    by_cases e : m = n + 1
    · rw [e]; grind
    · have := ih (by omega)
      have := hf_pos n
      show hf n / 2 ≤ hf m
      grind
theorem hf_small (ε : Rat) (h : 0 < ε) : ∃ N, hf N ≤ ε := by
  have key : ∀ n : Nat, hf n * ((n : Rat) + 1) ≤ 1 := by
    intro n
    induction n with
    | zero => show (1 : Rat) * ((0 : Nat) + 1 : Rat) ≤ 1; grind
    | succ n ih =>
      have h1 := hf_pos n
      have h2 : (0 : Rat) ≤ (n : Rat) := by grind
      have h3 : 0 ≤ hf n * (n : Rat) := Rat.mul_nonneg (by grind) h2
      show hf n / 2 * (((n + 1 : Nat) : Rat) + 1) ≤ 1
      rw [Rat.natCast_add]
      have e3 : ((1 : Nat) : Rat) = 1 := rfl
      rw [e3]
      generalize hf n = x at *
      generalize (n : Rat) = y at *
      grind
  have h1 := key ε.den
  have h2 : 1 ≤ ε * (ε.den : Rat) := by
    have h4 : ε * (ε.den : Rat) = (ε.num : Rat) := by
      have h5 := Rat.num_divInt_den ε
      rw [Rat.divInt_eq_div] at h5
      have h6 : ((ε.den : Int) : Rat) ≠ 0 := fun z => ε.den_nz (by rw [Rat.intCast_eq_zero_iff] at z; omega)
      have h7 := Rat.div_mul_cancel (a := (ε.num : Rat)) h6
      rw [h5] at h7
      exact h7
    rw [h4]
    have h8 : 0 ≤ ε.num := Rat.num_nonneg.mpr (by grind)
    have h9 : ε.num ≠ 0 := fun z => by
      have := Rat.num_eq_zero.mp z
      grind
    have h10 : (1 : Int) ≤ ε.num := by omega
    exact Rat.intCast_le_intCast.mpr h10
  refine ⟨ε.den, ?_⟩
  have h3 := hf_pos ε.den
  have h4 : (0 : Rat) ≤ (ε.den : Rat) := by grind
  generalize hf ε.den = x at *
  generalize (ε.den : Rat) = y at *
  refine Classical.byContradiction fun z => ?_
  have h5 : ε < x := by grind
  have h6 : 0 ≤ (x - ε) * y := Rat.mul_nonneg (by grind) h4
  grind
theorem hf_le1 (n : Nat) : hf n ≤ 1 := hf_le (Nat.zero_le n)
theorem lt_of_sq {a b : Rat} (ha : 0 ≤ a) (hb : 0 ≤ b) (h : a * a < b * b) : a < b := by
  refine Classical.byContradiction fun z => ?_
  have h1 : 0 ≤ (a - b) * (a + b) := Rat.mul_nonneg (by grind) (by grind)
  grind
/-- fractions whose squares come near c from below -/
theorem near_ex (c : Rat) (h : 0 ≤ c) (n : Nat) : ∃ s : Rat, 0 ≤ s ∧ s * s ≤ c ∧ c < (s + hf n) * (s + hf n) := by
  have hp := hf_pos n
  have hq : 0 < (hf n)⁻¹ := Rat.inv_pos.mpr hp
  have hi : hf n * (hf n)⁻¹ = 1 := Rat.mul_inv_cancel _ (by grind)
  have h0 : 0 ≤ c * ((hf n)⁻¹ * (hf n)⁻¹) := Rat.mul_nonneg h (Rat.mul_nonneg (by grind) (by grind))
  obtain ⟨k, k1, k2⟩ := root_ex _ h0
  have hk : (0 : Rat) ≤ (k : Rat) := by grind
  have hp2 : 0 < hf n * hf n := Rat.mul_pos hp hp
  generalize hf n = x at *
  generalize x⁻¹ = y at *
  generalize (k : Rat) = m at *
  have e1 := Rat.mul_le_mul_of_nonneg_right k1 (show 0 ≤ x * x by grind)
  have e2 := Rat.mul_lt_mul_of_pos_right k2 hp2
  have e3 : c * (y * y) * (x * x) = c := by
    have : c * (y * y) * (x * x) = c * ((x * y) * (x * y)) := by grind
    rw [this, hi]; grind
  rw [e3] at e1 e2
  exact ⟨m * x, Rat.mul_nonneg hk (by grind), by grind, by grind⟩
noncomputable def nr (c : Rat) (n : Nat) : Rat := if h : 0 ≤ c then (near_ex c h n).choose else 0
theorem nr_spec {c : Rat} (h : 0 ≤ c) (n : Nat) : 0 ≤ nr c n ∧ nr c n * nr c n ≤ c ∧ c < (nr c n + hf n) * (nr c n + hf n) := by
  unfold nr
  rw [dif_pos h]
  exact (near_ex c h n).choose_spec
theorem nr_le {c : Rat} (h : 0 ≤ c) (n : Nat) : nr c n ≤ c + 1 := by
  obtain ⟨h1, h2, _⟩ := nr_spec h n
  have : nr c n * nr c n < (c + 1) * (c + 1) := by
    have : 0 ≤ c * c := Rat.mul_nonneg h h
    grind
  have := lt_of_sq h1 (by grind) this
  grind
noncomputable def root (c : Rat) (h : 0 ≤ c) : Cs := ⟨nr c, ⟨c + 1, by grind, fun n => ⟨by have := (nr_spec h n).1; grind, nr_le h n⟩⟩, fun ε hε => by
  obtain ⟨N, hN⟩ := hf_small ε hε
  refine ⟨N, fun m n _ hn => ?_⟩
  obtain ⟨a1, a2, _⟩ := nr_spec h m
  obtain ⟨b1, _, b3⟩ := nr_spec h n
  have := hf_pos n
  have := lt_of_sq a1 (show 0 ≤ nr c n + hf n by grind) (by grind)
  have := hf_le hn
  grind⟩
end Cs
namespace Rl
/-- the root of a fraction that is not below nothing -/
noncomputable def sq (c : Rat) : Rl := if h : 0 ≤ c then mk (Cs.root c h) else 0
theorem sq_nonneg (c : Rat) : 0 ≤ sq c := by
  unfold sq
  split
  · rename_i h
    intro z
    obtain ⟨ε, hε, N, z⟩ := (show Pos (0 - mk (Cs.root c h)) from z)
    have : ε ≤ ((0 : Nat) : Rat) + -Cs.nr c N := z N (Nat.le_refl _)
    have := (Cs.nr_spec h N).1
    grind
  · grind
theorem sq_mul {c : Rat} (h : 0 ≤ c) : sq c * sq c = q c := by
  unfold sq
  rw [dif_pos h]
  refine Quotient.sound fun ε hε => ?_
  have hd : 0 < ε / (2 * c + 3) := by
    rw [Rat.div_def]
    exact Rat.mul_pos hε (Rat.inv_pos.mpr (by grind))
  obtain ⟨N, hN⟩ := Cs.hf_small _ hd
  refine ⟨N, fun n hn => ?_⟩
  show -ε ≤ Cs.nr c n * Cs.nr c n + -c ∧ Cs.nr c n * Cs.nr c n + -c ≤ ε
  obtain ⟨b1, b2, b3⟩ := Cs.nr_spec h n
  have h1 := Cs.nr_le h n
  have h2 := Cs.hf_pos n
  have h3 := Cs.hf_le1 n
  have h4 := Cs.hf_le hn
  have e : ε / (2 * c + 3) * (2 * c + 3) = ε := Rat.div_mul_cancel (by grind)
  generalize ε / (2 * c + 3) = δ at *
  generalize Cs.nr c n = s at *
  generalize Cs.hf n = x at *
  have k1 : 0 ≤ (c + 1 - s) * x := Rat.mul_nonneg (by grind) (by grind)
  have k2 : 0 ≤ (1 - x) * x := Rat.mul_nonneg (by grind) (by grind)
  have k3 : 0 ≤ (δ - x) * (2 * c + 3) := Rat.mul_nonneg (by grind) (by grind)
  constructor <;> grind
end Rl


/-! ### signs -/
def sgn (r : Rat) : Int := r.num.sign
theorem sgn_pos {r : Rat} (h : 0 < r) : sgn r = 1 := by
  refine Int.sign_eq_one_of_pos ?_
  have h1 : 0 ≤ r.num := Rat.num_nonneg.mpr (by grind)
  have h2 : r.num ≠ 0 := fun z => by
    have := Rat.num_eq_zero.mp z
    grind
  omega
theorem sgn_neg' (r : Rat) : sgn (-r) = -sgn r := by
  unfold sgn
  rw [Rat.neg_num, Int.sign_neg]
theorem sgn_neg {r : Rat} (h : r < 0) : sgn r = -1 := by
  have := sgn_pos (r := -r) (by grind)
  rw [sgn_neg'] at this
  omega
theorem sgn_zero : sgn 0 = 0 := rfl
noncomputable def sr (x : Rl) : Int := open Classical in if 0 < x then 1 else if x = 0 then 0 else -1
theorem sr_pos {x : Rl} (h : 0 < x) : sr x = 1 := by unfold sr; rw [if_pos h]
theorem sr_zero : sr 0 = 0 := by
  unfold sr
  rw [if_neg (by grind), if_pos rfl]
theorem sr_neg {x : Rl} (h : x < 0) : sr x = -1 := by
  unfold sr
  rw [if_neg (by grind), if_neg (by grind)]
theorem sr_cases (x : Rl) : (sr x = 1 ∧ 0 < x) ∨ (sr x = 0 ∧ x = 0) ∨ (sr x = -1 ∧ x < 0) := by
  rcases Rl.lt_tri 0 x with h | h | h
  · exact .inl ⟨sr_pos h, h⟩
  · exact .inr (.inl ⟨by rw [← h]; exact sr_zero, h.symm⟩)
  · exact .inr (.inr ⟨sr_neg h, h⟩)
theorem Rl.mul_pos {x y : Rl} (h : 0 < x) (g : 0 < y) : 0 < x * y := by
  have := Rl.mul_lt g h
  grind
theorem sr_mul (x y : Rl) : sr (x * y) = sr x * sr y := by
  rcases sr_cases x with ⟨e, h⟩ | ⟨e, h⟩ | ⟨e, h⟩
  · rcases sr_cases y with ⟨e2, g⟩ | ⟨e2, g⟩ | ⟨e2, g⟩
    · rw [e, e2, sr_pos (Rl.mul_pos h g)]; rfl
    · rw [e, e2, g, show x * 0 = 0 by grind, sr_zero]; rfl
    · rw [e, e2, sr_neg (by have := Rl.mul_pos h (y := -y) (by grind); grind)]; rfl
  · rw [e, h, show 0 * y = 0 by grind, sr_zero, Int.zero_mul]
  · rcases sr_cases y with ⟨e2, g⟩ | ⟨e2, g⟩ | ⟨e2, g⟩
    · rw [e, e2, sr_neg (by have := Rl.mul_pos (x := -x) (by grind) g; grind)]; rfl
    · rw [e, e2, g, show x * 0 = 0 by grind, sr_zero]; rfl
    · rw [e, e2, sr_pos (by have := Rl.mul_pos (x := -x) (y := -y) (by grind) (by grind); grind)]; rfl
theorem sr_q (r : Rat) : sr (Rl.q r) = sgn r := by
  rcases Rat.lt_trichotomy' r with h | h | h
  · rw [sgn_neg h, sr_neg (by rw [← Rl.q_zero, Rl.q_lt]; exact h)]
  · rw [h, sgn_zero, Rl.q_zero, sr_zero]
  · rw [sgn_pos h, sr_pos (by rw [← Rl.q_zero, Rl.q_lt]; exact h)]
where Rat.lt_trichotomy' (r : Rat) : r < 0 ∨ r = 0 ∨ 0 < r := by grind
theorem sr_neg' (x : Rl) : sr (-x) = -sr x := by
  rw [show -x = (-1) * x by grind, sr_mul, sr_neg (show (-1 : Rl) < 0 by grind)]
  omega
/-- a + b * root c -/
noncomputable def val (a b c : Rat) : Rl := Rl.q a + Rl.q b * Rl.sq c
def sg1 (a b c : Rat) : Int :=
  let s := sgn a
  let t := if c = 0 then 0 else sgn b
  if s = t ∨ t = 0 then s else if s = 0 then t else s * sgn (a * a - b * b * c)
theorem sq_zero : Rl.sq 0 = 0 := by
  have h := Rl.sq_mul (c := 0) (by grind)
  rw [Rl.q_zero] at h
  have g := Rl.sq_nonneg 0
  rcases sr_cases (Rl.sq 0) with ⟨e, h2⟩ | ⟨e, h2⟩ | ⟨e, h2⟩
  · have := Rl.mul_pos h2 h2
    grind
  · exact h2
  · grind
theorem sq_pos {c : Rat} (h : 0 < c) : 0 < Rl.sq c := by
  have h1 := Rl.sq_mul (c := c) (by grind)
  have g := Rl.sq_nonneg c
  rcases sr_cases (Rl.sq c) with ⟨e, h2⟩ | ⟨e, h2⟩ | ⟨e, h2⟩
  · exact h2
  · rw [h2, show (0 : Rl) * 0 = Rl.q 0 by rw [Rl.q_zero]; grind, Rl.q_inj] at h1
    grind
  · grind
theorem sg1_val {a b c : Rat} (hc : 0 ≤ c) : sg1 a b c = sr (val a b c) := by
  unfold sg1 val
  by_cases h0 : c = 0
  · subst h0
    rw [if_pos rfl]
    simp only [or_true, if_true]
    rw [sq_zero, show Rl.q a + Rl.q b * 0 = Rl.q a by grind, sr_q]
  · rw [if_neg h0]
    have hs := sq_pos (c := c) (by grind)
    have hm := Rl.sq_mul hc
    have ea := sr_q a
    have eb := sr_q b
    have eg : sgn (a * a - b * b * c) = sr (Rl.q a + Rl.q b * Rl.sq c) * sr (Rl.q a - Rl.q b * Rl.sq c) := by
      rw [← sr_q, ← sr_mul, Rl.q_sub, Rl.q_mul, Rl.q_mul, Rl.q_mul, ← hm]
      congr 1
      grind
    rw [eg, ← ea, ← eb]
    generalize Rl.q a = A at *
    generalize Rl.q b = B at *
    generalize Rl.sq c = s at *
    have pm : ∀ {y : Rl}, 0 < y → 0 < y * s := fun h => Rl.mul_pos h hs
    rcases sr_cases A with ⟨e1, h1⟩ | ⟨e1, h1⟩ | ⟨e1, h1⟩ <;> rcases sr_cases B with ⟨e2, h2⟩ | ⟨e2, h2⟩ | ⟨e2, h2⟩ <;> rw [e1, e2]
    · have := pm h2
      rw [sr_pos (show 0 < A + B * s by grind)]; rfl
    · rw [h2, show A + 0 * s = A by grind, e1]; rfl
    · have := pm (y := -B) (by grind)
      rw [sr_pos (show 0 < A - B * s by grind)]
      simp
    · have := pm h2
      rw [sr_pos (show 0 < A + B * s by grind)]; rfl
    · rw [h1, h2, show (0 : Rl) + 0 * s = 0 by grind, sr_zero]; rfl
    · have := pm (y := -B) (by grind)
      rw [sr_neg (show A + B * s < 0 by grind)]; rfl
    · have := pm h2
      rw [sr_neg (show A - B * s < 0 by grind)]
      simp
    · rw [h2, show A + 0 * s = A by grind, e1]; rfl
    · have := pm (y := -B) (by grind)
      rw [sr_neg (show A + B * s < 0 by grind)]; rfl
def sg2 (a b c d e : Rat) : Int :=
  if d = 0 ∨ e = 0 then sg1 a b c
  else
    let l := sg1 a b c
    let r := sgn d
    if l = 0 ∨ l = r then r else l * sg1 (a * a + b * b * c - d * d * e) (2 * (a * b)) c
theorem sg2_val {a b c d e : Rat} (hc : 0 ≤ c) (he : 0 ≤ e) : sg2 a b c d e = sr (val a b c + Rl.q d * Rl.sq e) := by
  unfold sg2
  by_cases h0 : d = 0 ∨ e = 0
  · rw [if_pos h0, sg1_val hc]
    congr 1
    rcases h0 with h | h
    · rw [h, Rl.q_zero]; grind
    · rw [h, sq_zero]; grind
  · rw [if_neg h0]
    have hd : d ≠ 0 := fun z => h0 (.inl z)
    have he0 : e ≠ 0 := fun z => h0 (.inr z)
    have hs := sq_pos (c := e) (by grind)
    have hm := Rl.sq_mul he
    have hm2 := Rl.sq_mul hc
    have eg : sg1 (a * a + b * b * c - d * d * e) (2 * (a * b)) c = sr (val a b c + Rl.q d * Rl.sq e) * sr (val a b c - Rl.q d * Rl.sq e) := by
      rw [sg1_val hc, ← sr_mul]
      congr 1
      unfold val
      rw [Rl.q_sub, Rl.q_add, Rl.q_mul, Rl.q_mul, Rl.q_mul, Rl.q_mul, Rl.q_mul, Rl.q_mul, Rl.q_mul, ← hm, ← hm2, Rl.q_two]
      grind
    simp only [eg, sg1_val hc]
    have ed : sgn d = sr (Rl.q d * Rl.sq e) := by rw [sr_mul, sr_q, sr_pos hs, Int.mul_one]
    have hdn : Rl.q d * Rl.sq e ≠ 0 := fun z => by
      have : sgn d = 0 := by rw [ed, z, sr_zero]
      have h1 : d.num = 0 := Int.sign_eq_zero_iff_zero.mp this
      exact hd (Rat.num_eq_zero.mp h1)
    rw [ed]
    generalize val a b c = A at *
    generalize Rl.q d * Rl.sq e = B at *
    rcases sr_cases A with ⟨e1, h1⟩ | ⟨e1, h1⟩ | ⟨e1, h1⟩ <;> rcases sr_cases B with ⟨e2, h2⟩ | ⟨e2, h2⟩ | ⟨e2, h2⟩ <;> rw [e1, e2]
    · rw [sr_pos (show 0 < A + B by grind)]; rfl
    · exact (hdn h2).elim
    · rw [sr_pos (show 0 < A - B by grind)]; simp
    · rw [h1, show 0 + B = B by grind, e2]; rfl
    · exact (hdn h2).elim
    · rw [h1, show 0 + B = B by grind, e2]; rfl
    · rw [sr_neg (show A - B < 0 by grind)]; simp
    · exact (hdn h2).elim
    · rw [sr_neg (show A + B < 0 by grind)]; rfl


/-! ### sizes by themselves -/
theorem bz_0 : bz 1 0 := ⟨by unfold sm; decide, by decide⟩
theorem bz_1 : bz 1 1 := ⟨by unfold sm; decide, by decide⟩
local macro_rules | `(tactic| dl_puts) => `(tactic| first
  | with_reducible assumption
  | with_reducible exact bz_0
  | with_reducible exact bz_1
  | with_reducible exact bz_2
  | ((with_reducible apply bz_add) <;> dl_puts)
  | ((with_reducible apply bz_sub) <;> dl_puts)
  | ((with_reducible apply bz_mul) <;> dl_puts)
  | ((with_reducible apply bz_neg) <;> dl_puts))
local macro_rules | `(tactic| kpc_g) => `(tactic| with_reducible assumption)
local macro_rules | `(tactic| pv_meta) => `(tactic| first | omega | dl_puts | kpc_g | assumption)
local macro_rules | `(tactic| placed_of1) => `(tactic| repeat (first | tb_rel | tb_start | dl_keeps))
theorem cN : c_NOTHING = dr 0 := rfl
theorem lit01 : PyData.tuple [.int 0, .int 1] = dr 0 := rfl
theorem lit11 : PyData.tuple [.int 1, .int 1] = dr 1 := rfl
theorem lit21 : PyData.tuple [.int 2, .int 1] = dr 2 := rfl
abbrev rt (a b c : Rat) : D := .tuple [dr a, dr b, dr c]
section
variable {k l m ka kb kc kd ke kf : Nat} {a b c d e f p q : Rat} {Q : D → Prop}
theorem sp_plain (h : Q (rt a 0 0)) : F_plain [dr a] Q := by
  unfold F_plain
  placed_of0
  exact h
local macro_rules | `(tactic| dl_keeps) => `(tactic| (with_reducible apply sp_plain))
theorem sg1_sg (s t : Int) : sgn p = p.num.sign := rfl
theorem num_c (hc : 0 ≤ c) : (0 < c.num) ↔ c ≠ 0 := by
  have h1 : 0 ≤ c.num := Rat.num_nonneg.mpr hc
  have h2 := Rat.num_eq_zero (q := c)
  constructor
  · intro z y
    rw [y] at z
    exact absurd z (by decide)
  · intro z
    have : c.num ≠ 0 := fun y => z (h2.mp y)
    omega
/-! sizes of ints -/
theorem sm_sgn (i : Int) : sm 1 i.sign := by
  unfold sm
  rcases Int.lt_trichotomy i 0 with h | h | h
  · rw [Int.sign_eq_neg_one_of_neg h]; decide
  · rw [h]; decide
  · rw [Int.sign_eq_one_of_pos h]; decide
theorem sg1_def (s t : Int) (hs : sgn a = s) (ht : (if c = 0 then 0 else sgn b) = t) : sg1 a b c = if s = t ∨ t = 0 then s else if s = 0 then t else s * sgn (a * a - b * b * c) := by
  unfold sg1
  rw [hs, ht]
theorem sp_sign_of_root (ha : bz ka a) (hb : bz kb b) (hc : bz kc c) (hk : 2 * ka + 2 * kb + kc < 7900) (h : Q (.int (sg1 a b c))) : F_sign_of_root [rt a b c] Q := by
  unfold F_sign_of_root
  placed_of0
  dl_keeps
  placed_of0
  rw [cN, eqv_dr]
  rw [show a.num.sign = sgn a from rfl]
  have hss : sm 1 (sgn a) := sm_sgn _
  by_cases hc0 : c = 0
  · have e := sg1_def (a := a) (b := b) (c := c) _ 0 rfl (by rw [if_pos hc0])
    rw [if_pos (.inr rfl)] at e
    rw [decide_eq_true hc0]
    placed_of0
    rw [eqv_int]
    by_cases h1 : sgn a = 0
    · rw [decide_eq_true h1]
      placed_of0
      rw [← e]; exact h
    · rw [decide_eq_false h1]
      placed_of0
      rw [← e]; exact h
  have e := sg1_def (a := a) (b := b) (c := c) _ _ rfl (by rw [if_neg hc0])
  rw [decide_eq_false hc0]
  placed_of0
  dl_keeps
  placed_of0
  rw [show b.num.sign = sgn b from rfl]
  generalize sgn b = t at *
  generalize sgn a = s at *
  rw [eqv_int]
  by_cases h1 : s = t
  · rw [decide_eq_true h1]
    placed_of0
    rw [if_pos (.inl h1)] at e
    rw [← e]; exact h
  rw [decide_eq_false h1]
  placed_of0
  rw [eqv_int]
  by_cases h2 : t = 0
  · rw [decide_eq_true h2]
    placed_of0
    rw [if_pos (.inr h2)] at e
    rw [← e]; exact h
  rw [decide_eq_false h2]
  rw [if_neg (by omega)] at e
  placed_of0
  rw [eqv_int]
  by_cases h3 : s = 0
  · rw [decide_eq_true h3]
    placed_of0
    rw [if_pos h3] at e
    rw [← e]; exact h
  rw [decide_eq_false h3]
  rw [if_neg h3] at e
  placed_of0
  dl_keeps
  placed_of0
  dl_keeps
  placed_of0
  dl_keeps
  placed_of0
  dl_keeps
  placed_of0
  dl_keeps
  placed_of0
  rw [eqv_int]
  rw [show (a * a - b * b * c).num.sign = sgn (a * a - b * b * c) from rfl]
  by_cases h4 : sgn (a * a - b * b * c) = 0
  · rw [h4, Int.mul_zero] at e
    rw [h4, decide_eq_true rfl]
    placed_of0
    rw [← e]; exact h
  · rw [decide_eq_false h4]
    placed_of0
    · exact cmul hss (sm_sgn _) (by decide)
    placed_of0
    rw [← e]; exact h
local macro_rules | `(tactic| dl_keeps) => `(tactic| (with_reducible apply sp_sign_of_root; (focus pv_meta); (focus pv_meta); (focus pv_meta); (focus pv_meta)))
end
local macro_rules | `(tactic| dl_keeps) => `(tactic| (with_reducible apply sp_plain))
local macro_rules | `(tactic| dl_keeps) => `(tactic| (with_reducible apply sp_sign_of_root; (focus pv_meta); (focus pv_meta); (focus pv_meta); (focus pv_meta)))

section
variable {k l m ka kb kc kd ke kf : Nat} {a b c d e f p q : Rat} {Q : D → Prop}
theorem sp_sum2 (hp : bz k p) (hq : bz l q) (hk : k + l < 7900) (h : Q (dr (p + q))) : F_sum_of [.list [dr p, dr q]] Q := by
  unfold F_sum_of
  placed_of1
  rw [cN]
  placed_of1
  rw [Rat.zero_add]
  exact h
theorem sp_sum3 (hp : bz k p) (hq : bz l q) (hr : bz m a) (hk : k + l + m < 7900) (h : Q (dr (p + q + a))) : F_sum_of [.list [dr p, dr q, dr a]] Q := by
  unfold F_sum_of
  placed_of1
  rw [cN]
  placed_of1
  rw [Rat.zero_add]
  exact h
theorem sp_sum0 (h : Q (dr 0)) : F_sum_of [.list []] Q := by
  unfold F_sum_of
  placed_of1
  rw [cN]
  exact h
theorem sg2_0 (h : d = 0 ∨ e = 0) : sg2 a b c d e = sg1 a b c := by unfold sg2; rw [if_pos h]
theorem sg2_1 (h : ¬ (d = 0 ∨ e = 0)) : sg2 a b c d e = if sg1 a b c = 0 ∨ sg1 a b c = sgn d then sgn d else sg1 a b c * sg1 (a * a + b * b * c - d * d * e) (2 * (a * b)) c := by unfold sg2; rw [if_neg h]
theorem sm_sg1 : sm 2 (sg1 a b c) := by
  unfold sg1 sgn
  have h1 : sm 2 a.num.sign := sm_mono (sm_sgn _) (by decide)
  have h2 : sm 2 b.num.sign := sm_mono (sm_sgn _) (by decide)
  have h3 : sm 2 (a.num.sign * (a * a - b * b * c).num.sign) := sm_mul (sm_sgn _) (sm_sgn _)
  have h4 : sm 2 0 := by unfold sm; decide
  by_cases z : c = 0
  · simp only [z, if_true, or_true]
    exact h1
  simp only [z, if_false]
  split
  · exact h1
  split
  all_goals first | exact h1 | exact h2 | exact h3 | exact h4
theorem sp_sign_of_two (ha : bz ka a) (hb : bz kb b) (hc : bz kc c) (hd : bz kd d) (he : bz ke e) (hk : 6 * ka + 6 * kb + 3 * kc + 4 * kd + 2 * ke < 7800) (h : Q (.int (sg2 a b c d e))) : F_sign_of_two [dr a, dr b, dr c, dr d, dr e] Q := by
  unfold F_sign_of_two
  placed_of1
  rw [cN, eqv_dr]
  by_cases hd0 : d = 0
  · rw [decide_eq_true hd0]
    placed_of1
    rw [sg2_0 (.inl hd0)] at h; exact h
  rw [decide_eq_false hd0]
  placed_of1
  rw [eqv_dr]
  by_cases he0 : e = 0
  · rw [decide_eq_true he0]
    placed_of1
    rw [sg2_0 (.inr he0)] at h; exact h
  rw [sg2_1 (by simp [hd0, he0])] at h
  rw [decide_eq_false he0]
  placed_of1
  rw [eqv_int]
  rw [show d.num.sign = sgn d from rfl]
  by_cases h1 : sg1 a b c = 0
  · rw [decide_eq_true h1]
    placed_of1
    rw [if_pos (.inl h1)] at h; exact h
  rw [decide_eq_false h1]
  placed_of1
  rw [eqv_int]
  by_cases h2 : sg1 a b c = sgn d
  · rw [decide_eq_true h2]
    placed_of1
    rw [if_pos (.inr h2)] at h; exact h
  rw [decide_eq_false h2]
  rw [if_neg (by simp [h1, h2])] at h
  placed_of1
  refine sp_sum2 (by dl_puts) (by dl_puts) (by omega) ?_
  placed_of1
  rw [lit21]
  placed_of1
  · exact cmul (sm_sg1 (a := a) (b := b) (c := c)) (sm_sg1) (by decide)
  exact h
local macro_rules | `(tactic| dl_keeps) => `(tactic| (with_reducible apply sp_sign_of_two; (focus pv_meta); (focus pv_meta); (focus pv_meta); (focus pv_meta); (focus pv_meta); (focus pv_meta)))
end
local macro_rules | `(tactic| dl_keeps) => `(tactic| (with_reducible apply sp_sign_of_two; (focus pv_meta); (focus pv_meta); (focus pv_meta); (focus pv_meta); (focus pv_meta); (focus pv_meta)))

section
variable {k l m ka kb kc kd ke kf : Nat} {a b c d e f p q : Rat} {Q : D → Prop}
def cmp (a b c d e f : Rat) : Int := sg2 (a - d) b c (-e) f
theorem sp_compare (ha : bz ka a) (hb : bz kb b) (hc : bz kc c) (hd : bz kd d) (he : bz ke e) (hf : bz kf f) (hk : 6 * ka + 6 * kd + 6 * kb + 3 * kc + 4 * ke + 2 * kf < 7700) (h : Q (.int (cmp a b c d e f))) : F_compare [rt a b c, rt d e f] Q := by
  unfold F_compare
  placed_of1
  exact h
local macro_rules | `(tactic| dl_keeps) => `(tactic| (with_reducible apply sp_compare; (focus pv_meta); (focus pv_meta); (focus pv_meta); (focus pv_meta); (focus pv_meta); (focus pv_meta); (focus pv_meta)))
theorem sg1_le (hc : 0 ≤ c) (h : (if c = 0 then 0 else sgn b) = 0 ∨ sgn a = (if c = 0 then 0 else sgn b)) : sg1 a b c = sgn a := by
  rw [sg1_def _ _ rfl rfl, if_pos (by rcases h with h | h; exact .inr h; exact .inl h)]
end
local macro_rules | `(tactic| dl_keeps) => `(tactic| (with_reducible apply sp_compare; (focus pv_meta); (focus pv_meta); (focus pv_meta); (focus pv_meta); (focus pv_meta); (focus pv_meta); (focus pv_meta)))

section
variable {k l m ka kb kc kd ke kf : Nat} {a b c d e f p q C : Rat} {Q : D → Prop}
/-! ### whole roots -/
theorem wroot_loop : ∀ (n : Nat) (lo hi num : Int) (s : Sl) (P : Po) (k : Nat), 0 ≤ lo → lo < hi → (hi - lo).toNat ≤ n → lo * lo ≤ num → num < hi * hi → sm k hi → k < 4000 → 
    (∀ lo' s', 0 ≤ lo' → lo' * lo' ≤ num → num < (lo' + 1) * (lo' + 1) → sm k lo' → P.nx [.va (.int num), .va (.int lo'), .va (.int (lo' + 1)), s']) →
    whileW (eT (eOp fGt (eOp fSub (eVar 2) (eVar 1)) (eC (.int 1)))) (sSeq (sAsg (eOp fDiv (eOp fAdd (eVar 1) (eVar 2)) (eC (.int 2))) (mgName 3)) (sIf (eT (eOp fLe (eOp fMul (eVar 3) (eVar 3)) (eVar 0))) (sAsg (eVar 3) (mgName 1)) (sAsg (eVar 3) (mgName 2)))) n [.va (.int num), .va (.int lo), .va (.int hi), s] P
  | 0, lo, hi, num, s, P, k, h0, h1, h2, _, _, _, _, _ => by omega
  | n + 1, lo, hi, num, s, P, k, h0, h1, h2, h3, h4, hs, hk, hP => by
    unfold whileW
    obtain ⟨nx, rt, bk, ct⟩ := P
    have hl : sm k lo := by unfold sm at *; omega
    placed_of0
    by_cases hd : 1 < hi - lo
    · rw [decide_eq_true hd]
      placed_of0
      · exact cdv sm_2 (by decide) (by decide)
      have hm : sm k ((lo + hi).fdiv 2) := by
        unfold sm at *
        rw [Int.fdiv_eq_ediv_of_nonneg _ (by decide)]
        omega
      have e : (lo + hi).fdiv 2 = (lo + hi) / 2 := Int.fdiv_eq_ediv_of_nonneg _ (by decide)
      rw [e] at hm ⊢
      placed_of0
      · exact cmul hm hm (by omega)
      placed_of0
      by_cases hc : (lo + hi) / 2 * ((lo + hi) / 2) ≤ num
      · rw [decide_eq_true hc]
        placed_of0
        exact wroot_loop n _ hi num _ _ k (by omega) (by omega) (by omega) hc h4 hs hk hP
      · rw [decide_eq_false hc]
        placed_of0
        exact wroot_loop n lo _ num _ _ k h0 (by omega) (by omega) h3 (by omega) hm hk hP
    · rw [decide_eq_false hd]
      placed_of0
      have e : hi = lo + 1 := by omega
      subst e
      exact hP lo s h0 h3 h4 hl
theorem sp_whole_root {n : Int} (hn : 0 ≤ n) (hs : sm k n) (hk : k < 3900) (h : ∀ r : Int, 0 ≤ r → r * r ≤ n → n < (r + 1) * (r + 1) → Q (if r * r = n then .int r else .none)) : F_whole_root [.int n] Q := by
  unfold F_whole_root
  placed_of0
  have h1 : n + 1 ≤ (n + 1) * (n + 1) := by have := Int.mul_le_mul_of_nonneg_left (a := 1) (b := n + 1) (c := n + 1) (by omega) (by omega); omega
  refine ⟨(n + 1).toNat, wroot_loop _ 0 (n + 1) n _ _ (k + 1 + 1) (by omega) (by omega) (by omega) (by omega) (by omega) (sm_add (sm_mono hs (by omega)) (by unfold sm; have := Nat.one_le_two_pow (n := k); rw [Nat.pow_succ]; simp; omega)) (by omega) fun r s' r0 r1 r2 r3 => ?_⟩
  placed_of0
  · exact cmul r3 r3 (by omega)
  placed_of0
  have := h r r0 r1 r2
  rw [eqv_int]
  by_cases e : r * r = n
  · rw [decide_eq_true e]
    placed_of0
    rw [if_pos e] at this; exact this
  · rw [decide_eq_false e]
    placed_of0
    rw [if_neg e] at this; exact this
local macro_rules | `(tactic| dl_keeps) => `(tactic| (with_reducible apply sp_whole_root; (focus pv_meta); (focus pv_meta); (focus pv_meta)))
/-- above nothing, and no square of a fraction -/
def Nsq (c : Rat) : Prop := 0 < c ∧ ∀ r : Rat, r * r ≠ c
/-- the third part -/
def trd (b C : Rat) : Rat := if b = 0 then 0 else C
abbrev nrm (a b C : Rat) : D := rt a b (trd b C)
theorem nrm_0 (a C : Rat) : nrm a 0 C = rt a 0 0 := rfl
theorem nrm_1 (h : b ≠ 0) : nrm a b C = rt a b C := by unfold nrm trd; rw [if_neg h]
theorem rat_eq (c : Rat) : (c.num : Rat) = c * ((c.den : Nat) : Rat) := by
  have h5 := Rat.num_divInt_den c
  rw [Rat.divInt_eq_div] at h5
  have h6 : ((c.den : Int) : Rat) ≠ 0 := fun z => c.den_nz (by rw [Rat.intCast_eq_zero_iff] at z; omega)
  have h7 := Rat.div_mul_cancel (a := (c.num : Rat)) h6
  rw [h5] at h7
  exact h7.symm
theorem nsq_no {u l : Int} (hc : Nsq c) (h1 : u * u = c.num) (h2 : l * l = (c.den : Nat)) : False := by
  refine hc.2 ((u : Rat) / (l : Rat)) ?_
  have hl : (l : Rat) ≠ 0 := fun z => by
    rw [Rat.intCast_eq_zero_iff] at z
    rw [z] at h2
    have := c.den_nz
    omega
  have e1 : (u : Rat) * (u : Rat) = c * ((l : Rat) * (l : Rat)) := by
    rw [← Rat.intCast_mul, ← Rat.intCast_mul, h1, h2, rat_eq c]
    rfl
  have e2 : (u : Rat) / (l : Rat) * (l : Rat) = u := Rat.div_mul_cancel hl
  generalize (u : Rat) / (l : Rat) = x at *
  generalize (u : Rat) = y at *
  generalize (l : Rat) = z at *
  have e3 : (x * x - c) * (z * z) = 0 := by rw [← e2] at e1; grind
  rcases Rat.mul_eq_zero.mp e3 with h | h
  · grind
  · rcases Rat.mul_eq_zero.mp h with h | h <;> exact (hl h).elim
theorem sp_tidy0 (hb : bz kb b) (h : Q (rt a 0 0)) (hc : b = 0 ∨ c = 0) : F_tidy [dr a, dr b, dr c] Q := by
  unfold F_tidy
  placed_of1
  rw [cN, eqv_dr]
  by_cases b0 : b = 0
  · rw [decide_eq_true b0]
    placed_of1
    exact h
  · rw [decide_eq_false b0]
    placed_of1
    rw [eqv_dr, decide_eq_true (hc.resolve_left b0)]
    placed_of1
    exact h
theorem sp_tidy (hc : Nsq c) (hs : bz kc c) (hk : kc < 3900) (h : Q (nrm a b c)) : F_tidy [dr a, dr b, dr c] Q := by
  by_cases b0 : b = 0
  · rw [b0, nrm_0] at h
    exact sp_tidy0 (kb := 1) (by rw [b0]; exact bz_0) h (.inl b0)
  rw [nrm_1 b0] at h
  have c0 : c ≠ 0 := by have := hc.1; grind
  unfold F_tidy
  placed_of1
  rw [cN, eqv_dr, decide_eq_false b0]
  placed_of1
  rw [eqv_dr, decide_eq_false c0]
  placed_of1
  have hn : 0 ≤ c.num := Rat.num_nonneg.mpr (by have := hc.1; grind)
  refine sp_whole_root hn hs.1 hk fun u u0 u1 u2 => ?_
  placed_of1
  refine sp_whole_root (by omega) (sm_den hs) hk fun v v0 v1 v2 => ?_
  placed_of1
  by_cases e1 : u * u = c.num
  · rw [if_pos e1]
    placed_of1
    by_cases e2 : v * v = ((c.den : Nat) : Int)
    · exact (nsq_no hc e1 e2).elim
    · rw [if_neg e2]
      placed_of1
      exact h
  · rw [if_neg e1]
    placed_of1
    exact h
local macro_rules | `(tactic| dl_keeps) => `(tactic| (with_reducible apply sp_tidy; (focus pv_meta); (focus pv_meta); (focus pv_meta)))
end
local macro_rules | `(tactic| dl_keeps) => `(tactic| (with_reducible apply sp_whole_root; (focus pv_meta); (focus pv_meta); (focus pv_meta)))
local macro_rules | `(tactic| dl_keeps) => `(tactic| (with_reducible apply sp_tidy; (focus pv_meta); (focus pv_meta); (focus pv_meta)))

section
variable {k l m ka kb kc kd ke kf : Nat} {a b c d e f p q C : Rat} {Q : D → Prop}
theorem nrm_eq (a b C : Rat) : nrm a b C = rt a b (trd b C) := rfl
theorem bz_trd (h : bz m C) (hm : 1 ≤ m) : bz m (trd b C) := by
  unfold trd
  split
  · exact bz_mono bz_0 hm
  · exact h
theorem bz_trd1 (h : bz m C) : bz (m + 1) (trd b C) := bz_trd (bz_mono h (by omega)) (by omega)
local macro_rules | `(tactic| dl_puts) => `(tactic| ((with_reducible apply bz_trd1) <;> dl_puts))
/-- tidy where the third part is the common one, or nothing -/
theorem tidy_trd (hc : Nsq C) (hs : bz m C) (hk : m < 3900) (hb : bz kb b) (y : Rat) (h0 : trd y C = 0 → b = 0) (h : Q (nrm a b C)) : F_tidy [dr a, dr b, dr (trd y C)] Q := by
  by_cases hy : trd y C = 0
  · have b0 := h0 hy
    rw [b0, nrm_0] at h
    rw [b0]
    exact sp_tidy0 (kb := 1) bz_0 h (.inl rfl)
  · have : trd y C = C := by unfold trd at *; split <;> grind
    rw [this]
    exact sp_tidy hc hs hk h
theorem trd_eq0 (hc : Nsq C) (h : trd b C = 0) : b = 0 := by
  unfold trd at h
  have := hc.1
  split at h <;> grind
/-- the third part that two numbers choose -/
theorem pick_trd (hc : Nsq C) {X : (D → Prop) → Prop} : True := trivial
def mx (b f : Rat) : Rat := if b = 0 then f else b
theorem mx_0 (h : mx b f = 0) : b = 0 ∧ f = 0 := by
  unfold mx at h
  split at h <;> grind
theorem trd_mx (b f C : Rat) : trd (mx b f) C = if b = 0 then trd f C else trd b C := by
  unfold mx
  split <;> rfl
theorem sp_added_root (hc : Nsq C) (hs : bz m C) (ha : bz k a) (hb : bz k b) (hd : bz k d) (hf : bz k f) (hm : m < 3000) (hk : k < 3000) (h : Q (nrm (a + d) (b + f) C)) : F_added_root [nrm a b C, nrm d f C] Q := by
  rw [nrm_eq a b, nrm_eq d f]
  unfold F_added_root
  placed_of1
  rw [cN, eqv_dr]
  have key : ∀ x, trd (mx b f) C = x → F_tidy [dr (a + d), dr (b + f), dr x] Q := fun x e => by
    rw [← e]
    refine tidy_trd hc hs (by omega) (kb := k + k + 1) (by dl_puts) _ (fun z => ?_) h
    obtain ⟨h1, h2⟩ := mx_0 (trd_eq0 hc z)
    rw [h1, h2]; grind
  rw [trd_mx] at key
  by_cases hb0 : b = 0
  · rw [decide_eq_true hb0]
    rw [if_pos hb0] at key
    placed_of1
    exact key _ rfl
  · rw [decide_eq_false hb0]
    rw [if_neg hb0] at key
    placed_of1
    exact key _ rfl
local macro_rules | `(tactic| dl_keeps) => `(tactic| (with_reducible apply sp_added_root; (focus pv_meta); (focus pv_meta); (focus pv_meta); (focus pv_meta); (focus pv_meta); (focus pv_meta); (focus pv_meta); (focus pv_meta)))
theorem trd_neg (b C : Rat) : trd (-b) C = trd b C := by
  unfold trd
  by_cases h : b = 0
  · rw [if_pos h, if_pos (by rw [h]; rfl)]
  · rw [if_neg h, if_neg (by grind)]
theorem sp_turned_root (h : Q (nrm (-a) (-b) C)) : F_turned_root [nrm a b C] Q := by
  rw [nrm_eq, trd_neg] at h
  rw [nrm_eq]
  unfold F_turned_root
  placed_of1
  exact h
local macro_rules | `(tactic| dl_keeps) => `(tactic| (with_reducible apply sp_turned_root))
theorem sp_minus_root (hc : Nsq C) (hs : bz m C) (ha : bz k a) (hb : bz k b) (hd : bz k d) (hf : bz k f) (hm : m < 3000) (hk : k < 3000) (h : Q (nrm (a - d) (b - f) C)) : F_minus_root [nrm a b C, nrm d f C] Q := by
  unfold F_minus_root
  placed_of1
  rw [← Rat.sub_eq_add_neg, ← Rat.sub_eq_add_neg]
  exact h
local macro_rules | `(tactic| dl_keeps) => `(tactic| (with_reducible apply sp_minus_root; (focus pv_meta); (focus pv_meta); (focus pv_meta); (focus pv_meta); (focus pv_meta); (focus pv_meta); (focus pv_meta); (focus pv_meta)))
theorem sp_times_root (hc : Nsq C) (hs : bz m C) (ha : bz k a) (hb : bz k b) (hd : bz l d) (hf : bz l f) (hm : m < 1000) (hk : k + l < 1500) (h : Q (nrm (a * d + b * f * C) (a * f + b * d) C)) : F_times_root [nrm a b C, nrm d f C] Q := by
  rw [nrm_eq a b, nrm_eq d f]
  unfold F_times_root
  placed_of1
  rw [cN, eqv_dr]
  have key : ∀ x, trd (mx b f) C = x → F_tidy [dr (a * d + b * f * x), dr (a * f + b * d), dr x] Q := fun x e => by
    have e2 : a * d + b * f * x = a * d + b * f * C := by
      rw [← e]
      by_cases z : trd (mx b f) C = 0
      · obtain ⟨h1, h2⟩ := mx_0 (trd_eq0 hc z)
        rw [h1]; grind
      · have : trd (mx b f) C = C := by unfold trd at *; split <;> grind
        rw [this]
    rw [e2, ← e]
    refine tidy_trd hc hs (by omega) (kb := k + l + (k + l) + 1) (by dl_puts) _ (fun z => ?_) h
    obtain ⟨h1, h2⟩ := mx_0 (trd_eq0 hc z)
    rw [h1, h2]; grind
  rw [trd_mx] at key
  by_cases hb0 : b = 0
  · rw [decide_eq_true hb0]
    rw [if_pos hb0] at key
    placed_of1
    exact key _ rfl
  · rw [decide_eq_false hb0]
    rw [if_neg hb0] at key
    placed_of1
    exact key _ rfl
local macro_rules | `(tactic| dl_keeps) => `(tactic| (with_reducible apply sp_times_root; (focus pv_meta); (focus pv_meta); (focus pv_meta); (focus pv_meta); (focus pv_meta); (focus pv_meta); (focus pv_meta); (focus pv_meta)))
theorem sp_by_fraction (hc : Nsq C) (hs : bz m C) (ha : bz k a) (hb : bz k b) (hp : bz l p) (hm : m < 3000) (hk : k + l < 3000) (h : Q (nrm (a * p) (b * p) C)) : F_by_fraction [nrm a b C, dr p] Q := by
  rw [nrm_eq a b]
  unfold F_by_fraction
  placed_of1
  refine tidy_trd hc hs (by omega) (kb := k + l) (by dl_puts) _ (fun z => ?_) h
  rw [trd_eq0 hc z]; grind
local macro_rules | `(tactic| dl_keeps) => `(tactic| (with_reducible apply sp_by_fraction; (focus pv_meta); (focus pv_meta); (focus pv_meta); (focus pv_meta); (focus pv_meta); (focus pv_meta); (focus pv_meta)))
theorem low_ne (hc : Nsq C) (h : ¬ (d = 0 ∧ f = 0)) : d * d - f * f * C ≠ 0 := fun z => by
  by_cases hf : f = 0
  · rw [hf] at z
    have : d * d = 0 := by grind
    rcases Rat.mul_eq_zero.mp this with h1 | h1 <;> exact h ⟨h1, hf⟩
  · refine hc.2 (d / f) ?_
    have e2 : d / f * f = d := Rat.div_mul_cancel hf
    generalize d / f = x at *
    have e3 : (x * x - C) * (f * f) = 0 := by rw [← e2] at z; grind
    rcases Rat.mul_eq_zero.mp e3 with h1 | h1
    · grind
    · rcases Rat.mul_eq_zero.mp h1 with h1 | h1 <;> exact (hf h1).elim
theorem trd_mulsq (f C : Rat) : f * f * trd f C = f * f * C := by
  unfold trd
  by_cases h : f = 0
  · rw [h]; grind
  · rw [if_neg h]
end
local macro_rules | `(tactic| dl_puts) => `(tactic| ((with_reducible apply bz_trd1) <;> dl_puts))
local macro_rules | `(tactic| dl_keeps) => `(tactic| (with_reducible apply sp_added_root; (focus pv_meta); (focus pv_meta); (focus pv_meta); (focus pv_meta); (focus pv_meta); (focus pv_meta); (focus pv_meta); (focus pv_meta)))
local macro_rules | `(tactic| dl_keeps) => `(tactic| (with_reducible apply sp_turned_root))
local macro_rules | `(tactic| dl_keeps) => `(tactic| (with_reducible apply sp_minus_root; (focus pv_meta); (focus pv_meta); (focus pv_meta); (focus pv_meta); (focus pv_meta); (focus pv_meta); (focus pv_meta); (focus pv_meta)))
local macro_rules | `(tactic| dl_keeps) => `(tactic| (with_reducible apply sp_times_root; (focus pv_meta); (focus pv_meta); (focus pv_meta); (focus pv_meta); (focus pv_meta); (focus pv_meta); (focus pv_meta); (focus pv_meta)))
local macro_rules | `(tactic| dl_keeps) => `(tactic| (with_reducible apply sp_by_fraction; (focus pv_meta); (focus pv_meta); (focus pv_meta); (focus pv_meta); (focus pv_meta); (focus pv_meta); (focus pv_meta)))

section
variable {k l m ka kb kc kd ke kf : Nat} {a b c d e f p q C : Rat} {Q : D → Prop}
theorem sp_over_root (hc : Nsq C) (hs : bz m C) (ha : bz k a) (hb : bz k b) (hd : bz k d) (hf : bz k f) (hm : m < 100) (hk : k < 100) (hz : ¬ (d = 0 ∧ f = 0))
    (h : Q (nrm (a * (d / (d * d - f * f * C)) + b * -(f / (d * d - f * f * C)) * C) (a * -(f / (d * d - f * f * C)) + b * (d / (d * d - f * f * C))) C)) : F_over_root [nrm a b C, nrm d f C] Q := by
  rw [nrm_eq d f]
  unfold F_over_root
  placed_of1
  rw [trd_mulsq]
  have hl := low_ne hc hz
  have hlb : bz (k + k + (k + k + m) + 1) (d * d - f * f * C) := by dl_puts
  generalize d * d - f * f * C = low at *
  refine sp_over hd hlb hl (by omega) ?_
  placed_of1
  have b1 := bz_over hd hlb hl
  have b2 := bz_over hf hlb hl
  refine tidy_trd hc hs (by omega) (kb := k + (k + k + (k + k + m) + 1)) (by dl_puts) _ (fun z => ?_) ?_
  · rw [trd_eq0 hc z, Rat.div_def]; grind
  placed_of1
  exact h
end

section
variable {k l m ka kb kc kd ke kf : Nat} {a b c d e f p q C X Y x y z : Rat} {Q : D → Prop}
/-! ### judges -/
theorem sp_is_number (i : Int) (h : Q (.bool true)) : F_is_number [.int i] Q := by
  unfold F_is_number
  placed_of1
  exact h
local macro_rules | `(tactic| dl_keeps) => `(tactic| (with_reducible apply sp_is_number))
theorem sp_common {i j : Int} (h : Q (.int (Int.gcd i j : Nat))) : F_common [.int i, .int j] Q := common_ok h
local macro_rules | `(tactic| dl_keeps) => `(tactic| (with_reducible apply sp_common))
theorem gcd_dr (p : Rat) : Int.gcd p.num (p.den : Nat) = 1 := by
  have := p.reduced
  unfold Int.gcd
  rw [Int.natAbs_natCast]
  exact this
theorem sp_is_fraction (h : Q (.bool true)) : F_is_fraction [dr p] Q := by
  unfold F_is_fraction
  placed_of1
  rw [decide_eq_true (by have := p.den_pos; omega)]
  placed_of1
  rw [gcd_dr]
  placed_of1
  exact h
local macro_rules | `(tactic| dl_keeps) => `(tactic| (with_reducible apply sp_is_fraction))
theorem sp_is_root (hz : 0 ≤ z) (hyz : y = 0 ↔ z = 0) (h : Q (.bool true)) : F_is_root [rt x y z] Q := by
  unfold F_is_root
  placed_of1
  rw [decide_eq_true (Rat.num_nonneg.mpr hz)]
  placed_of1
  rw [cN, eqv_dr]
  placed_of1
  rw [eqv_dr]
  have e : PyData.eqv (.bool !decide (y = 0)) (.bool !decide (z = 0)) = true := by
    show ((!decide (y = 0)) == (!decide (z = 0))) = true
    by_cases h1 : y = 0
    · rw [decide_eq_true h1, decide_eq_true (hyz.mp h1)]; rfl
    · rw [decide_eq_false h1, decide_eq_false fun w => h1 (hyz.mpr w)]; rfl
  rw [e]
  exact h
local macro_rules | `(tactic| dl_keeps) => `(tactic| (with_reducible apply sp_is_root; (focus pv_meta); (focus pv_meta)))
theorem is_root_nrm (hc : Nsq C) (h : Q (.bool true)) : F_is_root [nrm a b C] Q := by
  rw [nrm_eq]
  refine sp_is_root ?_ ⟨fun z => ?_, trd_eq0 hc⟩ h
  · have := hc.1
    unfold trd
    split <;> grind
  · unfold trd; rw [if_pos z]
/-! ### what compare tells -/
theorem cmp_val (hc : 0 ≤ c) (hf : 0 ≤ f) : cmp a b c d e f = sr (val a b c - val d e f) := by
  unfold cmp
  rw [sg2_val hc hf]
  congr 1
  unfold val
  rw [Rl.q_sub, Rl.q_neg]
  grind
theorem val_trd (a b C : Rat) : val a b (trd b C) = val a b C := by
  unfold trd val
  by_cases h : b = 0
  · rw [h, Rl.q_zero]; grind
  · rw [if_neg h]
theorem trd_nonneg (h : 0 ≤ C) : 0 ≤ trd b C := by unfold trd; split <;> grind
theorem cmp_same (hC : 0 ≤ C) (hz : 0 ≤ z) (h : val X Y C = val x y z) : cmp X Y (trd Y C) x y z = 0 := by
  rw [cmp_val (trd_nonneg hC) hz, val_trd, h, show val x y z - val x y z = 0 by grind, sr_zero]
end
local macro_rules | `(tactic| dl_keeps) => `(tactic| (with_reducible apply sp_is_number))
local macro_rules | `(tactic| dl_keeps) => `(tactic| (with_reducible apply sp_common))
local macro_rules | `(tactic| dl_keeps) => `(tactic| (with_reducible apply sp_is_fraction))
local macro_rules | `(tactic| dl_keeps) => `(tactic| (with_reducible apply sp_is_root; (focus pv_meta); (focus pv_meta)))

section
variable {k l m ka kb kc kd ke kf : Nat} {a b c d e f p q C X Y x y z : Rat} {Q : D → Prop}
abbrev wD : D := .dict []
theorem next_ok {n : Int} (hn : 0 < n) (h : ∀ i, 0 ≤ i → i < n → Q (.int i)) : F__law_next [wD, .int n] Q := ⟨hn, h⟩
theorem sm_of {i : Int} (h1 : -(2 ^ k : Nat) < i) (h2 : i < (2 ^ k : Nat)) : sm k i := by unfold sm; omega
/-- a drawn part -/
def Pt (p : Rat) : Prop := ∃ u l : Int, -500000000 < u ∧ u < 500000000 ∧ 1 ≤ l ∧ l ≤ 7 ∧ p = Rat.divInt u l
theorem Pt.bz (h : Pt p) : bz 29 p := by
  obtain ⟨u, l, h1, h2, h3, h4, rfl⟩ := h
  exact bz_div (by omega) (sm_of (by simp; omega) (by simp; omega)) (sm_of (by simp; omega) (by simp; omega))
theorem atI_mem {ds : List D} {i : Int} (h0 : 0 ≤ i) (h1 : i < (ds.length : Nat)) : ∃ d, d ∈ ds ∧ atI ds i = some d := by
  have e : ixN ds.length i = some i.toNat := by
    unfold ixN
    rw [if_pos (by omega), if_pos (by omega)]
  refine ⟨ds[i.toNat]'(by omega), List.getElem_mem _, ?_⟩
  unfold atI
  rw [e]
  show ds[i.toNat]? = _
  exact List.getElem?_eq_getElem _
/-- a third part as the law picks it, and what stands for it in the numbers -/
structure Cok (c C : Rat) : Prop where
  c0 : 0 ≤ c
  bc : bz 4 c
  n : Nsq C
  bC : bz 4 C
  kind : C = c ∨ c = 4 ∨ c = 0
end

section
variable {k l m ka kb kc kd ke kf : Nat} {a b c d e f p q C X Y x y z : Rat} {Q : D → Prop}
theorem nsq_of {k : Nat} (h0 : 0 < c) (h1 : k * k < c.num.natAbs) (h2 : c.num.natAbs < (k + 1) * (k + 1)) : Nsq c := by
  refine ⟨h0, fun r hr => ?_⟩
  have e : (r * r).num = r.num * r.num := by
    have := dr_sq r
    simp only [dr, PyData.tuple.injEq, List.cons.injEq, PyData.int.injEq] at this
    exact this.1.symm
  rw [hr] at e
  rw [e, Int.natAbs_mul] at h1 h2
  generalize r.num.natAbs = p at *
  rcases Nat.lt_or_ge k p with h | h
  · have := Nat.mul_le_mul (show k + 1 ≤ p from h) (show k + 1 ≤ p from h)
    omega
  · have := Nat.mul_le_mul h h
    omega
theorem nsq_2 : Nsq 2 := nsq_of (k := 1) (by decide) (by decide) (by decide)
abbrev dv (i j : Int) : Rat := Rat.divInt i j
theorem cok_self (h : Nsq c) (hb : bz 4 c) : Cok c c := ⟨by have := h.1; grind, hb, h, hb, .inl rfl⟩
theorem cok_4 : Cok 4 2 := ⟨by decide, ⟨by unfold sm; decide, by decide⟩, nsq_2, bz_mono bz_2 (by decide), .inr (.inl rfl)⟩
theorem cok_0 : Cok 0 2 := ⟨by decide, bz_mono bz_0 (by decide), nsq_2, bz_mono bz_2 (by decide), .inr (.inr rfl)⟩
theorem cok_2 : Cok 2 2 := cok_self nsq_2 (bz_mono bz_2 (by decide))
theorem cok_3 : Cok 3 3 := cok_self (nsq_of (k := 1) (by decide) (by decide) (by decide)) ⟨by unfold sm; decide, by decide⟩
theorem cok_10 : Cok 10 10 := cok_self (nsq_of (k := 3) (by decide) (by decide) (by decide)) ⟨by unfold sm; decide, by decide⟩
theorem cok_11 : Cok 11 11 := cok_self (nsq_of (k := 3) (by decide) (by decide) (by decide)) ⟨by unfold sm; decide, by decide⟩
theorem cok_54 : Cok (dv 5 4) (dv 5 4) := cok_self (nsq_of (k := 2) (by decide) (by decide) (by decide)) ⟨by unfold sm; decide, by decide⟩
theorem cok_89 : Cok (dv 8 9) (dv 8 9) := cok_self (nsq_of (k := 2) (by decide) (by decide) (by decide)) ⟨by unfold sm; decide, by decide⟩
theorem cok_72 : Cok (dv 7 2) (dv 7 2) := cok_self (nsq_of (k := 2) (by decide) (by decide) (by decide)) ⟨by unfold sm; decide, by decide⟩
theorem cok_59 : Cok (dv 5 9) (dv 5 9) := cok_self (nsq_of (k := 2) (by decide) (by decide) (by decide)) ⟨by unfold sm; decide, by decide⟩
end

set_option maxHeartbeats 2000000
section
variable {k l m ka kb kc kd ke kf : Nat} {a b c d e f p q C X Y x y z : Rat} {Q : D → Prop}
theorem pick_c {K : D → Prop} {R : Rat → Prop} {ds : List D} (hds : ∀ d ∈ ds, ∃ c C, d = dr c ∧ Cok c C ∧ R c) (key : ∀ c C, Cok c C → R c → K (dr c)) : ∀ d ∈ ds, K d := fun d hd => by
  obtain ⟨c, C, rfl, h, r⟩ := hds d hd
  exact key c C h r
theorem sq_4 : Rl.sq 4 = 2 := by
  have h1 := Rl.sq_mul (c := 4) (by decide)
  have h2 := sq_pos (c := 4) (by decide)
  have h3 : Rl.q 4 = 2 * 2 := by rw [show (4 : Rat) = 2 * 2 by grind, Rl.q_mul, Rl.q_two]
  rw [h3] at h1
  have h4 : (Rl.sq 4 - 2) * (Rl.sq 4 + 2) = 0 := by grind
  have h5 : sr (Rl.sq 4 - 2) * sr (Rl.sq 4 + 2) = 0 := by rw [← sr_mul, h4, sr_zero]
  rw [sr_pos (show 0 < Rl.sq 4 + 2 by grind), Int.mul_one] at h5
  rcases sr_cases (Rl.sq 4 - 2) with ⟨e, h⟩ | ⟨e, h⟩ | ⟨e, h⟩
  · omega
  · grind
  · omega
theorem tidy4 (ha' : bz 29 a) (hb' : bz 29 b) (b0 : b ≠ 0) (h : Q (rt (a + 2 * b) 0 0)) : F_tidy [dr a, dr b, dr 4] Q := by
  unfold F_tidy
  placed_of1
  rw [cN, eqv_dr, decide_eq_false b0]
  placed_of1
  refine sp_whole_root (k := 4) (by decide) (sm_of (by decide) (by decide)) (by decide) fun u u0 u1 u2 => ?_
  have u1' : u * u ≤ 4 := u1
  have u2' : 4 < (u + 1) * (u + 1) := u2
  have hu : u = 2 := by
    have h1 : u < 3 := by
      refine Classical.byContradiction fun z => ?_
      have := Int.mul_le_mul (a := 3) (b := 3) (c := u) (d := u) (by omega) (by omega) (by omega) (by omega)
      omega
    have h2 : 1 < u := by
      refine Classical.byContradiction fun z => ?_
      have := Int.mul_le_mul (a := u + 1) (b := u + 1) (c := 2) (d := 2) (by omega) (by omega) (by omega) (by omega)
      omega
    omega
  subst hu
  rw [if_pos (by decide)]
  placed_of1
  refine sp_whole_root (k := 4) (by decide) (sm_of (by decide) (by decide)) (by decide) fun v v0 v1 v2 => ?_
  have v1' : v * v ≤ 1 := v1
  have v2' : 1 < (v + 1) * (v + 1) := v2
  have hv : v = 1 := by
    have h1 : v < 2 := by
      refine Classical.byContradiction fun z => ?_
      have := Int.mul_le_mul (a := 2) (b := 2) (c := v) (d := v) (by omega) (by omega) (by omega) (by omega)
      omega
    have h2 : 0 < v := by
      refine Classical.byContradiction fun z => ?_
      have := Int.mul_le_mul (a := v + 1) (b := v + 1) (c := 1) (d := 1) (by omega) (by omega) (by omega) (by omega)
      omega
    omega
  subst hv
  rw [if_pos (by decide)]
  placed_of1
  rw [lit21]
  placed_of1
  rw [show b * 2 = 2 * b by grind]
  exact h
end

section
variable {k l m ka kb kc kd ke kf : Nat} {a b c d e f p q C X Y x y z : Rat} {Q : D → Prop}
theorem val_add : val a b C + val d f C = val (a + d) (b + f) C := by unfold val; rw [Rl.q_add, Rl.q_add]; grind
theorem val_trd2 (h : b = 0 → Y = 0) : val X Y (trd b C) = val X Y C := by
  unfold trd
  by_cases hb : b = 0
  · rw [h hb]
    unfold val
    rw [Rl.q_zero]; grind
  · rw [if_neg hb]
theorem num_0 : Rat.num 0 = 0 := rfl
theorem back_a (h : d * d - f * f * C ≠ 0) : (a * (d / (d * d - f * f * C)) + b * -(f / (d * d - f * f * C)) * C) * d + (a * -(f / (d * d - f * f * C)) + b * (d / (d * d - f * f * C))) * f * C = a := by
  have e1 : d / (d * d - f * f * C) * (d * d - f * f * C) = d := Rat.div_mul_cancel h
  have e2 : f / (d * d - f * f * C) * (d * d - f * f * C) = f := Rat.div_mul_cancel h
  generalize hu : d / (d * d - f * f * C) = u at *
  generalize hv : f / (d * d - f * f * C) = v at *
  have e3 : (u * d - v * f * C - 1) * (d * d - f * f * C) = 0 := by grind
  have e4 : u * d - v * f * C = 1 := by
    rcases Rat.mul_eq_zero.mp e3 with z | z
    · grind
    · exact (h z).elim
  grind
theorem back_b (h : d * d - f * f * C ≠ 0) : (a * (d / (d * d - f * f * C)) + b * -(f / (d * d - f * f * C)) * C) * f + (a * -(f / (d * d - f * f * C)) + b * (d / (d * d - f * f * C))) * d = b := by
  have e1 : d / (d * d - f * f * C) * (d * d - f * f * C) = d := Rat.div_mul_cancel h
  have e2 : f / (d * d - f * f * C) * (d * d - f * f * C) = f := Rat.div_mul_cancel h
  generalize hu : d / (d * d - f * f * C) = u at *
  generalize hv : f / (d * d - f * f * C) = v at *
  have e3 : (u * d - v * f * C - 1) * (d * d - f * f * C) = 0 := by grind
  have e4 : u * d - v * f * C = 1 := by
    rcases Rat.mul_eq_zero.mp e3 with z | z
    · grind
    · exact (h z).elim
  have e5 : (u * f - v * d) * (d * d - f * f * C) = 0 := by grind
  have e6 : u * f - v * d = 0 := by
    rcases Rat.mul_eq_zero.mp e5 with z | z
    · exact z
    · exact (h z).elim
  grind
end

section
variable {k l m ka kb kc kd ke kf : Nat} {a b c d e f p q C X Y x y z : Rat} {Q : D → Prop}
/-! ### whole parts -/
noncomputable def fl (v : Rl) : Int := open Classical in if h : ∃ n : Int, Rl.q n ≤ v ∧ v < Rl.q ((n + 1 : Int) : Rat) then h.choose else 0
theorem fl_eq {v : Rl} {n : Int} (h1 : Rl.q n ≤ v) (h2 : v < Rl.q ((n + 1 : Int) : Rat)) : n = fl v := by
  have h : ∃ n : Int, Rl.q n ≤ v ∧ v < Rl.q ((n + 1 : Int) : Rat) := ⟨n, h1, h2⟩
  unfold fl
  rw [dif_pos h]
  obtain ⟨g1, g2⟩ := h.choose_spec
  generalize h.choose = j at *
  have e1 : Rl.q n < Rl.q ((j + 1 : Int) : Rat) := by grind
  have e2 : Rl.q j < Rl.q ((n + 1 : Int) : Rat) := by grind
  rw [Rl.q_lt, Rat.intCast_lt_intCast] at e1 e2
  omega
theorem dr_int (n : Int) : PyData.tuple [.int n, .int 1] = dr (n : Rat) := rfl
theorem bz_int {n : Int} (h : sm k n) (hk : 1 ≤ k) : bz k (n : Rat) := ⟨h, Nat.lt_of_lt_of_le (by decide : 1 < 2 ^ 1) (Nat.pow_le_pow_right (by decide) hk)⟩
theorem val_int (n : Int) : val (n : Rat) 0 0 = Rl.q n := by unfold val; rw [Rl.q_zero]; grind
theorem cmp_int (hc : 0 ≤ c) (n : Int) : cmp (n : Rat) 0 0 a b c = sr (Rl.q n - val a b c) := by rw [cmp_val (by decide) hc, val_int]
theorem cmp_rat (hc : 0 ≤ c) : cmp p 0 0 a b c = sr (Rl.q p - val a b c) := by
  rw [cmp_val (by decide) hc]
  congr 1
  unfold val
  rw [Rl.q_zero]; grind
theorem sr_le {v : Rl} : sr v ≤ 0 ↔ v ≤ 0 := by
  rcases sr_cases v with ⟨e, h⟩ | ⟨e, h⟩ | ⟨e, h⟩ <;> rw [e] <;> constructor <;> grind
theorem sr_lt {v : Rl} : sr v < 0 ↔ v < 0 := by
  rcases sr_cases v with ⟨e, h⟩ | ⟨e, h⟩ | ⟨e, h⟩ <;> rw [e] <;> constructor <;> grind
theorem sr_gt {v : Rl} : 0 < sr v ↔ 0 < v := by
  rcases sr_cases v with ⟨e, h⟩ | ⟨e, h⟩ | ⟨e, h⟩ <;> rw [e] <;> constructor <;> grind
theorem floor_loop (hc0 : 0 ≤ c) (ha : bz ka a) (hb : bz kb b) (hc : bz kc c) (hk1 : 1 ≤ k) (hk : 6 * k + 6 * ka + 4 * kb + 2 * kc < 7600) : ∀ (n : Nat) (lo hi : Int) (s : Sl) (P : Po), lo < hi → (hi - lo).toNat ≤ n → Rl.q lo ≤ val a b c → val a b c < Rl.q hi → sm k lo → sm k hi →
    (∀ (lo' : Int) s', Rl.q lo' ≤ val a b c → val a b c < Rl.q ((lo' + 1 : Int) : Rat) → sm k lo' → P.nx [.va (rt a b c), .va (.int lo'), .va (.int (lo' + 1)), s']) →
    whileW (eT (eOp fGt (eOp fSub (eVar 2) (eVar 1)) (eC (.int 1)))) (sSeq (sAsg (eOp fDiv (eOp fAdd (eVar 1) (eVar 2)) (eC (.int 2))) (mgName 3)) (sIf (eT (eOp fLe (eCallN 2 F_compare (aCons (eCallN 1 F_plain (aCons (eCallN 1 F_whole (aCons (eVar 3) aNil)) aNil)) (aCons (eVar 0) aNil))) (eC (.int 0)))) (sAsg (eVar 3) (mgName 1)) (sAsg (eVar 3) (mgName 2)))) n
      [.va (rt a b c), .va (.int lo), .va (.int hi), s] P
  | 0, lo, hi, s, P, h1, h2, _, _, _, _, _ => by omega
  | n + 1, lo, hi, s, P, h1, h2, h3, h4, hs1, hs2, hP => by
    unfold whileW
    obtain ⟨nx, rt', bk, ct⟩ := P
    placed_of0
    by_cases hd : 1 < hi - lo
    · rw [decide_eq_true hd]
      placed_of0
      · exact cdv sm_2 (by decide) (by decide)
      have hm : sm k ((lo + hi).fdiv 2) := by
        unfold sm at *
        rw [Int.fdiv_eq_ediv_of_nonneg _ (by decide)]
        omega
      have e : (lo + hi).fdiv 2 = (lo + hi) / 2 := Int.fdiv_eq_ediv_of_nonneg _ (by decide)
      rw [e] at hm ⊢
      placed_of0
      unfold F_whole
      placed_of0
      rw [dr_int]
      placed_of1
      refine sp_compare (ka := k) (kb := 1) (kc := 1) (bz_int hm hk1) bz_0 bz_0 ha hb hc (by omega) ?_
      rw [cmp_int hc0]
      placed_of0
      by_cases hcm : sr (Rl.q ((lo + hi) / 2 : Int) - val a b c) ≤ 0
      · rw [decide_eq_true hcm]
        placed_of0
        rw [sr_le] at hcm
        exact floor_loop hc0 ha hb hc hk1 hk n _ hi _ _ (by omega) (by omega) (by grind) h4 hm hs2 hP
      · rw [decide_eq_false hcm]
        placed_of0
        rw [sr_le] at hcm
        exact floor_loop hc0 ha hb hc hk1 hk n lo _ _ _ (by omega) (by omega) h3 (by grind) hs1 hm hP
    · rw [decide_eq_false hd]
      placed_of0
      have e : hi = lo + 1 := by omega
      subst e
      exact hP lo s h3 h4 hs1
theorem rat_floor (r : Rat) : ((r.num.fdiv (r.den : Nat) : Int) : Rat) ≤ r ∧ r < ((r.num.fdiv (r.den : Nat) + 1 : Int) : Rat) := by
  have hp : (0 : Int) < (r.den : Nat) := by have := r.den_pos; omega
  have e := rat_eq r
  have h1 := Int.fmod_add_mul_fdiv r.num (r.den : Nat)
  have h2 := Int.fmod_nonneg_of_pos r.num hp
  have h3 := Int.fmod_lt_of_pos r.num hp
  have hq : (0 : Rat) < ((r.den : Nat) : Rat) := by
    have := Rat.intCast_lt_intCast.mpr hp
    exact this
  constructor
  · refine Rat.le_of_mul_le_mul_right (c := ((r.den : Nat) : Rat)) ?_ hq
    rw [← e]
    have : r.num.fdiv (r.den : Nat) * (r.den : Nat) ≤ r.num := by rw [Int.mul_comm]; omega
    have := Rat.intCast_le_intCast.mpr this
    rw [Rat.intCast_mul] at this
    exact this
  · refine Rat.lt_of_mul_lt_mul_right (c := ((r.den : Nat) : Rat)) ?_ (by grind)
    rw [← e]
    have : r.num < (r.num.fdiv (r.den : Nat) + 1) * (r.den : Nat) := by rw [Int.add_mul, Int.mul_comm]; omega
    have := Rat.intCast_lt_intCast.mpr this
    rw [Rat.intCast_mul] at this
    exact this
theorem abs_floor (r : Rat) : -((((if r.num < 0 then -r.num else r.num).fdiv (r.den : Nat) + 1 : Int) : Rat)) < r ∧ r < (((if r.num < 0 then -r.num else r.num).fdiv (r.den : Nat) + 1 : Int) : Rat) := by
  have hr : ∀ r : Rat, 0 ≤ r → (0 : Rat) ≤ ((r.num.fdiv (r.den : Nat) : Int) : Rat) := fun r h => by
    have : (0 : Int) ≤ r.num.fdiv (r.den : Nat) := Int.fdiv_nonneg (Rat.num_nonneg.mpr h) (by omega)
    exact Rat.intCast_le_intCast.mpr this
  by_cases h : r.num < 0
  · rw [if_pos h]
    have h1 := rat_floor (-r)
    have h0 : r ≤ 0 := by
      have : 0 ≤ (-r).num := by rw [Rat.neg_num]; omega
      have := Rat.num_nonneg.mp this
      grind
    rw [Rat.neg_num, Rat.neg_den] at h1
    have h2 := hr (-r) (by grind)
    rw [Rat.neg_num, Rat.neg_den] at h2
    rw [Rat.intCast_add] at *
    generalize (((-r.num).fdiv (r.den : Nat) : Int) : Rat) = A at *
    have : ((1 : Int) : Rat) = 1 := rfl
    rw [this] at *
    constructor <;> grind
  · rw [if_neg h]
    have h1 := rat_floor r
    have h0 : 0 ≤ r := Rat.num_nonneg.mp (by omega)
    have h2 := hr r h0
    rw [Rat.intCast_add] at *
    generalize ((r.num.fdiv (r.den : Nat) : Int) : Rat) = A at *
    have : ((1 : Int) : Rat) = 1 := rfl
    rw [this] at *
    constructor <;> grind
theorem sm_fdiv {i j : Int} (h : sm k i) (hi : 0 ≤ i) (hj : 0 ≤ j) : sm k (i.fdiv j) := by
  unfold sm at *
  rw [Int.fdiv_eq_ediv_of_nonneg _ hj]
  have := Int.natAbs_ediv_le_natAbs i j
  omega
theorem bound_ok (hc0 : 0 ≤ c) (ha : bz ka a) (hb : bz kb b) (hc : bz kc c) (hk : ka + 2 * kb + kc < 2000)
    (h : ∀ B : Int, Rl.q ((-B : Int) : Rat) ≤ val a b c → val a b c < Rl.q B → 0 < B → sm (ka + kb + kb + kc + 3) B → Q (.int B)) : F_bound_of [rt a b c] Q := by
  unfold F_bound_of
  placed_of1
  · exact cdv (sm_den ha) (den_ne a) (by omega)
  have hbb : bz (kb + kb + kc) (b * b * c) := by dl_puts
  placed_of0
  · exact cdv (sm_den hbb) (den_ne _) (by omega)
  placed_of0
  have h1 := abs_floor a
  have h2 := rat_floor (b * b * c)
  have hn : 0 ≤ b * b * c := Rat.mul_nonneg (by rcases Rat.le_total (a := 0) (b := b) with z | z; exact Rat.mul_nonneg z z; have := Rat.mul_nonneg (a := -b) (b := -b) (by grind) (by grind); grind) hc0
  have hn2 : 0 ≤ (b * b * c).num := Rat.num_nonneg.mpr hn
  have hA0 : 0 ≤ (if a.num < 0 then -a.num else a.num) := by split <;> omega
  have hAs : sm ka (if a.num < 0 then -a.num else a.num) := by
    split
    · exact sm_neg ha.1
    · exact ha.1
  have s1 := sm_fdiv (j := (a.den : Nat)) hAs hA0 (by omega)
  have s2 := sm_fdiv (j := ((b * b * c).den : Nat)) hbb.1 hn2 (by omega)
  have p1 : 0 ≤ (if a.num < 0 then -a.num else a.num).fdiv (a.den : Nat) := Int.fdiv_nonneg hA0 (by omega)
  have p2 : 0 ≤ (b * b * c).num.fdiv ((b * b * c).den : Nat) := Int.fdiv_nonneg hn2 (by omega)
  have hsq := Rl.sq_mul hc0
  have ht : Rl.q b * Rl.sq c * (Rl.q b * Rl.sq c) = Rl.q (b * b * c) := by
    rw [Rl.q_mul, Rl.q_mul, ← hsq]; grind
  generalize (if a.num < 0 then -a.num else a.num).fdiv (a.den : Nat) = A at *
  generalize (b * b * c).num.fdiv ((b * b * c).den : Nat) = T at *
  have k1 := Rl.q_lt.mpr h1.1
  have k2 := Rl.q_lt.mpr h1.2
  have k3 := Rl.q_lt.mpr h2.2
  rw [← ht] at k3
  have e1 : ∀ i j : Int, Rl.q ((i + j : Int) : Rat) = Rl.q i + Rl.q j := fun i j => by rw [Rat.intCast_add, Rl.q_add]
  have e2 : Rl.q ((1 : Int) : Rat) = 1 := rfl
  have e3 : Rl.q ((3 : Int) : Rat) = 3 := rfl
  have e4 : ∀ i : Int, Rl.q ((-i : Int) : Rat) = -Rl.q i := fun i => by rw [Rat.intCast_neg, Rl.q_neg]
  rw [Rl.q_neg] at k1
  rw [e1, e2] at k1 k2 k3
  have v1 : ∀ t : Rl, 0 < t * t - t + 1 := fun t => by
    have : 0 ≤ (2 * t - 1) * (2 * t - 1) := by
      rcases sr_cases (2 * t - 1) with ⟨_, z⟩ | ⟨_, z⟩ | ⟨_, z⟩
      · have := Rl.mul_pos z z; grind
      · rw [z]; grind
      · have := Rl.mul_pos (x := -(2 * t - 1)) (y := -(2 * t - 1)) (by grind) (by grind); grind
    grind
  refine h (A + T + 3) ?_ ?_ (by omega) ?_
  · rw [e4, e1, e1, e3]
    unfold val
    have := v1 (-(Rl.q b * Rl.sq c))
    grind
  · rw [e1, e1, e3]
    unfold val
    have := v1 (Rl.q b * Rl.sq c)
    grind
  · have t1 : sm (ka + kb + kb + kc) A := sm_mono s1 (by omega)
    have t2 : sm (ka + kb + kb + kc) T := sm_mono s2 (by omega)
    unfold sm at *
    have := Nat.one_le_two_pow (n := ka + kb + kb + kc)
    rw [Nat.pow_add]
    omega
theorem floor_ok (hc0 : 0 ≤ c) (ha : bz ka a) (hb : bz kb b) (hc : bz kc c) (hk : 12 * ka + 16 * kb + 8 * kc < 7500)
    (h : ∀ n : Int, n = fl (val a b c) → Rl.q n ≤ val a b c → val a b c < Rl.q ((n + 1 : Int) : Rat) → sm (ka + kb + kb + kc + 3) n → Q (.int n)) : F_floor_of [rt a b c] Q := by
  unfold F_floor_of
  placed_of0
  refine bound_ok hc0 ha hb hc (by omega) fun B b1 b2 b3 b4 => ?_
  placed_of0
  refine bound_ok hc0 ha hb hc (by omega) fun B' b1' b2' b3' b4' => ?_
  placed_of0
  refine ⟨(B' - -B).toNat, floor_loop hc0 ha hb hc (k := ka + kb + kb + kc + 3) (by omega) (by omega) _ (-B) B' _ _ (by omega) (by omega) b1 b2' (sm_neg b4) b4' fun n s n1 n2 n3 => ?_⟩
  placed_of0
  exact h n (fl_eq n1 n2) n1 n2 n3
end

section
variable {k l m ka kb kc kd ke kf : Nat} {a b c d e f p q C X Y x y z : Rat} {Q : D → Prop}
theorem sp_whole {n : Int} (h : Q (dr (n : Rat))) : F_whole [.int n] Q := by
  unfold F_whole
  placed_of0
  rw [dr_int]
  exact h
local macro_rules | `(tactic| dl_keeps) => `(tactic| (with_reducible apply sp_whole))
theorem val_mul : val (a * p) (b * p) C = val a b C * Rl.q p := by unfold val; rw [Rl.q_mul, Rl.q_mul]; grind
theorem floor_nrm (hc : Nsq C) (hs : bz kc C) (ha : bz ka a) (hb : bz kb b) (hk : 12 * ka + 16 * kb + 8 * kc < 7400)
    (h : ∀ n : Int, n = fl (val a b C) → Rl.q n ≤ val a b C → val a b C < Rl.q ((n + 1 : Int) : Rat) → sm (ka + kb + kb + (kc + 1) + 3) n → Q (.int n)) : F_floor_of [nrm a b C] Q := by
  refine floor_ok (trd_nonneg (by have := hc.1; grind)) ha hb (bz_trd1 hs) (by omega) fun n h1 h2 h3 h4 => ?_
  rw [val_trd] at h1 h2 h3
  exact h n h1 h2 h3 h4
theorem near_ok {i : Int} (hi : i ≠ 0) (hil : sm l i) (hl : 1 ≤ l) (hc : Nsq C) (hs : bz kc C) (ha : bz k a) (hb : bz k b) (hk : 28 * (k + l) + 8 * kc < 7300)
    (h : ∀ n : Int, n = fl (val a b C * Rl.q i) → Rl.q n ≤ val a b C * Rl.q i → val a b C * Rl.q i < Rl.q ((n + 1 : Int) : Rat) → sm (k + l + (k + l) + (k + l) + (kc + 1) + 3) n → Q (dr (Rat.divInt n i))) : F_near_by [nrm a b C, .int i] Q := by
  unfold F_near_by
  placed_of0
  refine sp_whole ?_
  placed_of0
  have hib := bz_int hil hl
  refine sp_by_fraction hc hs ha hb hib (by omega) (by omega) ?_
  placed_of0
  refine floor_nrm hc hs (ka := k + l) (kb := k + l) (by dl_puts) (by dl_puts) (by omega) fun n n1 n2 n3 n4 => ?_
  rw [val_mul] at n1 n2 n3
  placed_of0
  refine fraction_ok hi hil (by omega) ?_
  exact h n n1 n2 n3 n4
theorem pow10 : ∀ (j : Nat) (s : Sl) (sc : Int) (i : Nat) (P : Po) (kk : Nat), sm kk sc → kk + 4 * j < 1000 → (∀ s', P.nx [.va (nrm a b C), .va (.int (i : Nat)), .va (.int (sc * 10 ^ j)), s']) →
    ∀ o : Nat, forW (mgName 3) (sAug 2 fMul (eC (.int 10))) ((List.range' o j).map fun t : Nat => PyData.int (0 + (t : Int))) [.va (nrm a b C), .va (.int (i : Nat)), .va (.int sc), s] P
  | 0, s, sc, i, P, kk, _, _, h, o => by
    obtain ⟨nx, rt', bk, ct⟩ := P
    have := h s
    rw [Int.pow_zero, Int.mul_one] at this
    exact this
  | j + 1, s, sc, i, P, kk, hsc, hk, h, o => by
    obtain ⟨nx, rt', bk, ct⟩ := P
    rw [List.range'_succ, List.map_cons]
    placed_of0
    · exact cmul hsc (show sm 4 10 by unfold sm; decide) (by omega)
    placed_of0
    refine pow10 j _ (sc * 10) i _ (kk + 4) (sm_mul hsc (show sm 4 10 by unfold sm; decide)) (by omega) (fun s' => ?_) (o + 1)
    have := h s'
    rw [show sc * 10 * 10 ^ j = sc * 10 ^ (j + 1) by rw [Int.pow_succ]; grind]
    exact this
theorem rngD_range' (j : Nat) : rngD 0 ((j : Nat) : Int).toNat = (List.range' 0 j).map fun t : Nat => PyData.int (0 + (t : Int)) := by
  unfold rngD
  rw [Int.toNat_natCast, List.range_eq_range']
theorem divInt_half : Rat.divInt (-1) 2 = -(1 / 2) := by decide +kernel
theorem sm_pow10 (j : Nat) : sm (4 * j + 1) (10 ^ j) := by
  induction j with
  | zero => unfold sm; decide
  | succ j ih =>
    rw [Int.pow_succ]
    exact sm_mono (sm_mul ih (show sm 4 10 by unfold sm; decide)) (by omega)
theorem rounded_ok {j : Nat} (hj : j ≤ 3) (hc : Nsq C) (hs : bz kc C) (ha : bz k a) (hb : bz k b) (hkc : kc ≤ 100) (hk : k ≤ 100) (hk1 : 1 ≤ k)
    (h : ∀ n : Int, n = fl (val a b C * Rl.q ((10 ^ j : Int) : Rat) + Rl.q (1 / 2)) → Rl.q n ≤ val a b C * Rl.q ((10 ^ j : Int) : Rat) + Rl.q (1 / 2) → val a b C * Rl.q ((10 ^ j : Int) : Rat) + Rl.q (1 / 2) < Rl.q ((n + 1 : Int) : Rat) → sm 900 n → Q (.int n)) : F_rounded [nrm a b C, .int (j : Nat)] Q := by
  unfold F_rounded
  placed_of0
  refine w_kR1 (by omega) (by omega) ?_
  rw [rngD_range']
  placed_of0
  refine pow10 j _ 1 j _ 1 (by unfold sm; decide) (by omega) (fun s' => ?_) 0
  rw [Int.one_mul]
  placed_of0
  refine sp_whole ?_
  placed_of0
  have hsj : sm 13 (10 ^ j : Int) := sm_mono (sm_pow10 j) (by omega)
  have hib := bz_int hsj (by decide)
  refine sp_by_fraction hc hs ha hb hib (by omega) (by omega) ?_
  placed_of0
  refine fraction_ok (k := 2) (by decide) (by unfold sm; decide) (by decide) ?_
  placed_of1
  rw [divInt_half, ← nrm_0 _ C]
  have hh : bz (k + 13) (-(1 / 2) : Rat) := bz_mono (k := 2) (by rw [← divInt_half]; exact bz_div (by decide) (by unfold sm; decide) (by unfold sm; decide)) (by omega)
  refine sp_minus_root hc hs (k := k + 13) (by dl_puts) (by dl_puts) hh (bz_mono bz_0 (by omega)) (by omega) (by omega) ?_
  have e : val (a * ((10 ^ j : Int) : Rat) - -(1 / 2)) (b * ((10 ^ j : Int) : Rat) - 0) C = val a b C * Rl.q ((10 ^ j : Int) : Rat) + Rl.q (1 / 2) := by
    rw [← val_mul]
    unfold val
    rw [Rl.q_sub, Rl.q_neg, Rl.q_sub, Rl.q_zero]; grind
  placed_of0
  refine floor_nrm hc hs (ka := 2 * k + 30) (kb := 2 * k + 30) (bz_mono (bz_sub (bz_mul ha hib) hh) (by omega)) (bz_mono (bz_sub (bz_mul hb hib) bz_0) (by omega)) (by omega) fun n n1 n2 n3 n4 => ?_
  rw [e] at n1 n2 n3
  exact h n n1 n2 n3 (sm_mono n4 (by omega))
end
local macro_rules | `(tactic| dl_keeps) => `(tactic| (with_reducible apply sp_whole))

section
variable {k l m ka kb kc kd ke kf : Nat} {a b c d e f p q C X Y x y z : Rat} {Q : D → Prop}
/-! ### texts -/
theorem len_app (x y : Str) : (x ++ y).length = x.length + y.length := by
  show (x.cps ++ y.cps).size = _
  rw [Array.size_append]; rfl
theorem app_assoc (x y z : Str) : x ++ y ++ z = x ++ (y ++ z) := by
  show (⟨x.cps ++ y.cps ++ z.cps⟩ : Str) = ⟨x.cps ++ (y.cps ++ z.cps)⟩
  rw [Array.append_assoc]
theorem len_cut (z : Str) (lo hi : Option Int) : (cutS z lo hi).length ≤ z.length := by
  unfold cutS
  show (List.toArray _).size ≤ z.cps.size
  rw [List.size_toArray, List.length_take, List.length_drop, Array.length_toList]
  omega
theorem len_mul (z : Str) (n : Int) (h : n ≤ 1000) (hz : z.length ≤ 1) : (mulStr z n).length ≤ 1000 := by
  unfold mulStr
  split
  · decide
  split
  · omega
  · show (List.foldl (· ++ ·) #[] _).size ≤ 1000
    rw [fold_size]
    have h4 : n.toNat ≤ 1000 := by omega
    have h5 : n.toNat * z.cps.size ≤ 1000 * 1 := Nat.mul_le_mul h4 hz
    simp
    omega
theorem w_strc {i : Int} (h : i.natAbs.log2 < 1920) (q : Q (.str (toString i : String))) : fStr [.int i] Q := ⟨h, q⟩
theorem w_mulS {z : Str} {i : Int} (h1 : -1000 < i) (h2 : i ≤ 1000) (h3 : z.length ≤ 1000) (q : Q (.str (mulStr z i))) : fMulS (.str z) (.int i) Q := ⟨h1, h2, h3, q⟩
abbrev tstr (i : Int) : Str := Str.ofString (toString (if i < 0 then -i else i))
theorem tstr_len {i : Int} (h : sm 900 i) : (tstr i).length ≤ 900 := by
  unfold tstr
  have e : (if i < 0 then -i else i) = Int.ofNat i.natAbs := by rw [Int.ofNat_eq_natCast]; split <;> omega
  rw [e, PyProof.Rows.text_ofNat]
  show (((Nat.toDigits 10 i.natAbs).map Char.toNat).toArray).size ≤ 900
  rw [List.size_toArray, List.length_map]
  refine PyProof.Rows.digits10_le (by decide) ?_
  exact Nat.lt_of_lt_of_le h (Nat.pow_le_pow_left (by decide) _)
def txt (i : Int) (j : Nat) : Str := mulStr "0" (((j : Nat) : Int) + 1 - (tstr i).length) ++ tstr i
theorem txt_len {i : Int} {j : Nat} (h : sm 900 i) (hj : j ≤ 3) : (txt i j).length ≤ 2000 := by
  unfold txt
  rw [len_app]
  have h1 := tstr_len h
  have h2 := len_mul "0" (((j : Nat) : Int) + 1 - (tstr i).length) (by omega) (by decide)
  omega
def dgt (i : Int) (j : Nat) : Str := (if i < 0 then "-" else "") ++ cutS (txt i j) none (some ((txt i j).length - (j : Nat))) ++ (if 0 < ((j : Nat) : Int) then "." ++ cutS (txt i j) (some ((txt i j).length - (j : Nat))) none else "")
/-! what may stand in a text -/
theorem sok_iff {x : Str} : PySem.PyData.strOk x = true ↔ ∀ c ∈ x.cps.toList, c < 1114112 := by
  unfold PySem.PyData.strOk
  rw [← Array.all_toList, List.all_eq_true]
  simp only [decide_eq_true_eq]
theorem sok_app {x y : Str} (h : PySem.PyData.strOk x = true) (g : PySem.PyData.strOk y = true) : PySem.PyData.strOk (x ++ y) = true := by
  rw [sok_iff] at *
  intro c hc
  have hc : c ∈ (x.cps ++ y.cps).toList := hc
  rw [Array.toList_append, List.mem_append] at hc
  exact hc.elim (h c) (g c)
theorem sok_cut {z : Str} {lo hi : Option Int} (h : PySem.PyData.strOk z = true) : PySem.PyData.strOk (cutS z lo hi) = true := by
  rw [sok_iff] at *
  intro c hc
  have hc : c ∈ ((z.cps.toList.drop (HT.sIx z.length 0 lo)).take (HT.sIx z.length z.length hi - HT.sIx z.length 0 lo)).toArray.toList := hc
  rw [List.toList_toArray] at hc
  exact h c (List.mem_of_mem_drop (List.mem_of_mem_take hc))
theorem sok_fold (cs : Array Nat) (h : ∀ c ∈ cs.toList, c < 1114112) : ∀ (n : Nat) (acc : Array Nat), (∀ c ∈ acc.toList, c < 1114112) → ∀ c ∈ ((List.replicate n cs).foldl (· ++ ·) acc).toList, c < 1114112
  | 0, acc, g => by simpa using g
  | n + 1, acc, g => by
    rw [List.replicate_succ, List.foldl_cons]
    refine sok_fold cs h n _ fun c hc => ?_
    rw [Array.toList_append, List.mem_append] at hc
    exact hc.elim (g c) (h c)
theorem sok_mul {z : Str} {n : Int} (h : PySem.PyData.strOk z = true) : PySem.PyData.strOk (mulStr z n) = true := by
  unfold mulStr
  split
  · decide +kernel
  split
  · exact h
  · rw [sok_iff] at *
    exact sok_fold z.cps h _ #[] (by simp)
theorem sok_tstr (i : Int) : PySem.PyData.strOk (tstr i) = true := by
  unfold tstr
  have e : (if i < 0 then -i else i) = Int.ofNat i.natAbs := by rw [Int.ofNat_eq_natCast]; split <;> omega
  rw [e, PyProof.Rows.text_ofNat, sok_iff]
  intro c hc
  have hc : c ∈ ((Nat.toDigits 10 i.natAbs).map Char.toNat).toArray.toList := hc
  rw [List.toList_toArray, List.mem_map] at hc
  obtain ⟨ch, _, rfl⟩ := hc
  have := ch.valid
  show ch.val.toNat < 1114112
  rcases this with h | h <;> omega
theorem sok_txt (i : Int) (j : Nat) : PySem.PyData.strOk (txt i j) = true := sok_app (sok_mul (by decide +kernel)) (sok_tstr i)
theorem sok_dgt (i : Int) (j : Nat) : PySem.PyData.strOk (dgt i j) = true := by
  unfold dgt
  refine sok_app (sok_app ?_ (sok_cut (sok_txt i j))) ?_
  · split <;> decide +kernel
  · split
    · exact sok_app (by decide +kernel) (sok_cut (sok_txt i j))
    · decide +kernel
theorem okD_str {x : Str} (h : PySem.PyData.strOk x = true) : okD (.str x) := ⟨rfl, by
  show (PySem.PyData.strOk x && decide (0 ≤ 64)) = true
  rw [h]; rfl⟩
theorem digits_ok {j : Nat} (hj : j ≤ 3) (hc : Nsq C) (hs : bz kc C) (ha : bz k a) (hb : bz k b) (hkc : kc ≤ 100) (hk : k ≤ 100) (hk1 : 1 ≤ k)
    (h : ∀ n : Int, n = fl (val a b C * Rl.q ((10 ^ j : Int) : Rat) + Rl.q (1 / 2)) → sm 900 n → Q (.str (dgt n j))) : F_digits_of [nrm a b C, .int (j : Nat)] Q := by
  unfold F_digits_of
  placed_of0
  refine rounded_ok hj hc hs ha hb hkc hk hk1 fun n n1 n2 n3 n4 => ?_
  have h := h n n1 n4
  have l1 : (Str.ofString (toString (if n < 0 then -n else n))).length ≤ 900 := tstr_len n4
  have l2 := txt_len n4 hj
  placed_of0
  refine w_strc (by have := log2_sm n4; have := log2_sm (sm_neg n4); split <;> omega) ?_
  placed_of0
  refine w_lenS (by omega) ?_
  placed_of0
  refine w_mulS (by omega) (by omega) (by decide) ?_
  placed_of0
  · have := len_mul "0" (((j : Nat) : Int) + 1 - (Str.ofString (toString (if n < 0 then -n else n))).length) (by omega) (by decide)
    omega
  rw [show mulStr "0" (((j : Nat) : Int) + 1 - (Str.ofString (toString (if n < 0 then -n else n))).length) ++ Str.ofString (toString (if n < 0 then -n else n)) = txt n j from rfl]
  placed_of0
  have tail : ∀ fr : Str, fr = (if n < 0 then "-" else "") → sRet (eOp fCatS (eOp fCatS (eVar 4) (eSl (eVar 3) oNone (oSome (eOp fSub (eCall fLen (aCons (eVar 3) aNil)) (eVar 1))))) (eIf (eT (eOp fGt (eVar 1) (eC (.int 0)))) (eOp fCatS (eC (.str ".")) (eSl (eVar 3) (oSome (eOp fSub (eCall fLen (aCons (eVar 3) aNil)) (eVar 1))) oNone)) (eC (.str ""))))
      [.va (nrm a b C), .va (.int (j : Nat)), .va (.int n), .va (.str (txt n j)), .va (.str fr)] { nx := fun _ => Q .none, rt := Q, bk := fun _ => False, ct := fun _ => False } := by
    intro fr hfr
    have lf : fr.length ≤ 1 := by rw [hfr]; split <;> decide
    placed_of0
    refine w_lenS (by omega) ?_
    placed_of0
    have c1 := len_cut (txt n j) none (some ((txt n j).length - (j : Nat)))
    have c2 := len_cut (txt n j) (some ((txt n j).length - (j : Nat))) none
    refine w_fSlS (by omega) ?_
    placed_of0
    · omega
    placed_of0
    unfold dgt at h
    by_cases hj0 : 0 < ((j : Nat) : Int)
    · rw [decide_eq_true hj0]
      rw [if_pos hj0] at h
      placed_of0
      refine w_lenS (by omega) ?_
      placed_of0
      refine w_fSlS (by omega) ?_
      placed_of0
      · have : (Str.ofString ".").length = 1 := by decide
        omega
      placed_of0
      · have : (Str.ofString ".").length = 1 := by decide
        rw [len_app, len_app]
        omega
      rw [hfr]
      exact h
    · rw [decide_eq_false hj0]
      rw [if_neg hj0] at h
      placed_of0
      · have : (Str.ofString "").length = 0 := by decide
        rw [len_app]
        omega
      rw [hfr]
      exact h
  by_cases hn : n < 0
  · rw [decide_eq_true hn]
    kfm_turns
    exact tail _ (by rw [if_pos hn])
  · rw [decide_eq_false hn]
    kfm_turns
    exact tail _ (by rw [if_neg hn])
end

section
variable {k l m ka kb kc kd ke kf : Nat} {a b c d e f p q C E X Y x y z : Rat} {Q : D → Prop}
/-! ### how near two numbers may be -/
theorem Rl.mul_bd {a b B C : Rl} (hB : 0 ≤ B) (hC : 0 ≤ C) (h1 : -B ≤ a) (h2 : a ≤ B) (h3 : -C ≤ b) (h4 : b ≤ C) : -(B * C) ≤ a * b ∧ a * b ≤ B * C := by
  have nn : ∀ {x y : Rl}, 0 ≤ x → 0 ≤ y → 0 ≤ x * y := fun {x y} hx hy => by
    rcases Rl.le_iff.mp hx with h | h
    · rcases Rl.le_iff.mp hy with g | g
      · have := Rl.mul_pos h g; grind
      · rw [← g]; grind
    · rw [← h]; grind
  have e1 : 0 ≤ (B - a) * (C + b) := nn (by grind) (by grind)
  have e2 : 0 ≤ (B + a) * (C - b) := nn (by grind) (by grind)
  have e3 : 0 ≤ (B - a) * (C - b) := nn (by grind) (by grind)
  have e4 : 0 ≤ (B + a) * (C + b) := nn (by grind) (by grind)
  constructor <;> grind
theorem root_le4 (h0 : 0 ≤ C) (h : C ≤ 16) : Rl.sq C ≤ 4 := by
  have h1 := Rl.sq_mul h0
  have h2 := Rl.sq_nonneg C
  have h3 : Rl.q C ≤ 16 := by
    rw [show (16 : Rl) = Rl.q 16 from rfl, Rl.q_le]; exact h
  refine Classical.byContradiction fun z => ?_
  have h4 : 0 < Rl.sq C - 4 := by grind
  have := Rl.mul_pos h4 h4
  have := Rl.mul_pos h4 (show (0 : Rl) < 4 by grind)
  grind
/-- a multiple is whole -/
def Wh (D : Int) (x : Rat) : Prop := ∃ n : Int, x * D = n
theorem wh_ne {D : Int} (hD : 0 < D) (h : Wh D x) (h0 : x ≠ 0) : (1 : Rat) / D ≤ x ∨ x ≤ -(1 / (D : Rat)) := by
  obtain ⟨n, e⟩ := h
  have hq : (0 : Rat) < (D : Rat) := by
    have := Rat.intCast_lt_intCast.mpr hD
    exact this
  have hi : (1 : Rat) / D * D = 1 := Rat.div_mul_cancel (by grind)
  have n0 : n ≠ 0 := fun z => by
    rw [z] at e
    rcases Rat.mul_eq_zero.mp e with g | g
    · exact h0 g
    · grind
  rcases Int.lt_or_gt_of_ne n0 with g | g
  · right
    have : (n : Rat) ≤ ((-1 : Int) : Rat) := Rat.intCast_le_intCast.mpr (by omega)
    rw [← e] at this
    refine Rat.le_of_mul_le_mul_right (c := (D : Rat)) ?_ hq
    have h2 : ((-1 : Int) : Rat) = -1 := rfl
    rw [h2] at this
    generalize (1 : Rat) / D = u at *
    grind
  · left
    have : ((1 : Int) : Rat) ≤ (n : Rat) := Rat.intCast_le_intCast.mpr (by omega)
    rw [← e] at this
    refine Rat.le_of_mul_le_mul_right (c := (D : Rat)) ?_ hq
    have h2 : ((1 : Int) : Rat) = 1 := rfl
    rw [h2] at this
    generalize (1 : Rat) / D = u at *
    grind
/-- a small factor of what is not small -/
theorem sep_of {W V : Rl} {N : Rat} {D : Int} {B δ : Rat} (hD : 0 < D) (hN : Wh D N) (h0 : N ≠ 0) (e : W * V = Rl.q N) (hB : 0 ≤ B) (h1 : -Rl.q B ≤ V) (h2 : V ≤ Rl.q B) (hW : 0 < W) (hδ : 0 ≤ δ) (hs : δ * B * D < 1) : Rl.q δ < W := by
  refine Classical.byContradiction fun z => ?_
  have hw : W ≤ Rl.q δ := by grind
  have k := Rl.mul_bd (a := W) (b := V) (B := Rl.q δ) (C := Rl.q B) (by rw [← Rl.q_zero, Rl.q_le]; exact hδ) (by rw [← Rl.q_zero, Rl.q_le]; exact hB) (by have : (0 : Rl) ≤ Rl.q δ := by rw [← Rl.q_zero, Rl.q_le]; exact hδ
                                                                                                                                                          grind) hw h1 h2
  rw [e, ← Rl.q_mul, ← Rl.q_neg, Rl.q_le, Rl.q_le] at k
  have hq : (0 : Rat) < (D : Rat) := by
    have := Rat.intCast_lt_intCast.mpr hD
    exact this
  have hi : (1 : Rat) / D * D = 1 := Rat.div_mul_cancel (by grind)
  have h3 : δ * B < 1 / D := by
    refine Rat.lt_of_mul_lt_mul_right (c := (D : Rat)) ?_ (by grind)
    rw [hi]; exact hs
  rcases wh_ne hD hN h0 with g | g <;> grind
/-- the numbers that are drawn: small, and whole times 420 -/
structure Sm (x : Rat) : Prop where
  w : Wh 420 x
  l : -8589934592 ≤ x
  u : x ≤ 8589934592
structure Th (C : Rat) : Prop where
  n : Nsq C
  w : Wh 9 C
  u : C ≤ 16
abbrev dlt : Rat := Rat.divInt 1 (2 ^ 170)
theorem dlt_eq : dlt * ((2 ^ 170 : Int) : Rat) = 1 := by
  rw [dlt, Rat.divInt_eq_div]
  exact Rat.div_mul_cancel (by decide +kernel)
theorem dlt_pos : 0 ≤ dlt := by decide +kernel
theorem small1 : dlt * 68719476736 * ((1587600 : Int) : Rat) < 1 := by decide +kernel
theorem small2 : dlt * 2596148429267413814265248164610048 * ((1587600 * 1587600 : Int) : Rat) < 1 := by decide +kernel
theorem nsq_y (hc : Nsq C) (h : x * x - y * y * C = 0) : x = 0 ∧ y = 0 := by
  refine Classical.byContradiction fun w => ?_
  exact low_ne hc w h
theorem rl_mul_le {A B s : Rl} (hA : -B ≤ A) (hA2 : A ≤ B) (h0 : 0 ≤ B) (hs : 0 ≤ s) (hs4 : s ≤ 4) : -(B * 4) ≤ A * s ∧ A * s ≤ B * 4 := Rl.mul_bd h0 (by grind) hA hA2 (by grind) hs4
theorem q_bd (h : Sm x) : -Rl.q 8589934592 ≤ Rl.q x ∧ Rl.q x ≤ Rl.q 8589934592 := by
  rw [← Rl.q_neg, Rl.q_le, Rl.q_le]
  exact ⟨h.l, h.u⟩
theorem q_nn {r : Rat} (h : 0 ≤ r) : 0 ≤ Rl.q r := by rw [← Rl.q_zero, Rl.q_le]; exact h
theorem q_num4 (r : Rat) : Rl.q r * 4 = Rl.q (r * 4) := by rw [Rl.q_mul]; rfl
theorem sep1 (hC : Th C) (hx : Sm x) (hy : Sm y) (h : 0 < Rl.q x + Rl.q y * Rl.sq C) : Rl.q dlt < Rl.q x + Rl.q y * Rl.sq C := by
  have h0 : 0 ≤ C := by have := hC.n.1; grind
  have hm := Rl.sq_mul h0
  refine sep_of (V := Rl.q x - Rl.q y * Rl.sq C) (N := x * x - y * y * C) (D := 1587600) (B := 68719476736) (by decide) ?_ ?_ ?_ (by decide) ?_ ?_ h dlt_pos small1
  · obtain ⟨X, eX⟩ := hx.w
    obtain ⟨Y, eY⟩ := hy.w
    obtain ⟨G, eG⟩ := hC.w
    refine ⟨X * X * 9 - Y * Y * G, ?_⟩
    rw [Rat.intCast_sub, Rat.intCast_mul, Rat.intCast_mul, Rat.intCast_mul, Rat.intCast_mul, ← eX, ← eY, ← eG]
    have e1 : ((1587600 : Int) : Rat) = 1587600 := rfl
    have e2 : ((420 : Int) : Rat) = 420 := rfl
    have e3 : ((9 : Int) : Rat) = 9 := rfl
    rw [e1, e2, e3]
    grind
  · intro z
    obtain ⟨z1, z2⟩ := nsq_y hC.n z
    rw [z1, z2, Rl.q_zero] at h
    grind
  · rw [Rl.q_sub, Rl.q_mul, Rl.q_mul, Rl.q_mul, ← hm]; grind
  · have k1 := q_bd hx
    have k2 := rl_mul_le (q_bd hy).1 (q_bd hy).2 (q_nn (by decide)) (Rl.sq_nonneg C) (root_le4 h0 hC.u)
    rw [q_num4] at k2
    have e : Rl.q 8589934592 + Rl.q (8589934592 * 4) ≤ Rl.q 68719476736 := by rw [← Rl.q_add, Rl.q_le]; decide +kernel
    grind
  · have k1 := q_bd hx
    have k2 := rl_mul_le (q_bd hy).1 (q_bd hy).2 (q_nn (by decide)) (Rl.sq_nonneg C) (root_le4 h0 hC.u)
    rw [q_num4] at k2
    have e : Rl.q 8589934592 + Rl.q (8589934592 * 4) ≤ Rl.q 68719476736 := by rw [← Rl.q_add, Rl.q_le]; decide +kernel
    grind
theorem sep2 (hC : Th C) (hE : Th E) (hCE : Nsq (E * C)) (hx : Sm x) (hf : Sm f) (hb : Sm b) (hf0 : f ≠ 0) (hb0 : b ≠ 0) (h : 0 < Rl.q x + Rl.q f * Rl.sq E - Rl.q b * Rl.sq C) : Rl.q dlt < Rl.q x + Rl.q f * Rl.sq E - Rl.q b * Rl.sq C := by
  have h0 : 0 ≤ C := by have := hC.n.1; grind
  have h1 : 0 ≤ E := by have := hE.n.1; grind
  have hm := Rl.sq_mul h0
  have hm1 := Rl.sq_mul h1
  have k1 := q_bd hx
  have k2 := rl_mul_le (q_bd hf).1 (q_bd hf).2 (q_nn (by decide)) (Rl.sq_nonneg E) (root_le4 h1 hE.u)
  have k3 := rl_mul_le (q_bd hb).1 (q_bd hb).2 (q_nn (by decide)) (Rl.sq_nonneg C) (root_le4 h0 hC.u)
  rw [q_num4] at k2 k3
  have e : Rl.q 8589934592 + Rl.q (8589934592 * 4) + Rl.q (8589934592 * 4) ≤ Rl.q 137438953472 := by rw [← Rl.q_add, ← Rl.q_add, Rl.q_le]; decide +kernel
  have b1 : -Rl.q 137438953472 ≤ Rl.q x + Rl.q f * Rl.sq E + Rl.q b * Rl.sq C ∧ Rl.q x + Rl.q f * Rl.sq E + Rl.q b * Rl.sq C ≤ Rl.q 137438953472 := by constructor <;> grind
  have b2 : -Rl.q 137438953472 ≤ Rl.q x - Rl.q f * Rl.sq E - Rl.q b * Rl.sq C ∧ Rl.q x - Rl.q f * Rl.sq E - Rl.q b * Rl.sq C ≤ Rl.q 137438953472 := by constructor <;> grind
  have b3 : -Rl.q 137438953472 ≤ Rl.q x - Rl.q f * Rl.sq E + Rl.q b * Rl.sq C ∧ Rl.q x - Rl.q f * Rl.sq E + Rl.q b * Rl.sq C ≤ Rl.q 137438953472 := by constructor <;> grind
  have q0 : 0 ≤ Rl.q 137438953472 := q_nn (by decide)
  have b4 := Rl.mul_bd q0 q0 b1.1 b1.2 b2.1 b2.2
  rw [← Rl.q_mul] at b4
  have b5 := Rl.mul_bd (q_nn (r := 137438953472 * 137438953472) (by decide +kernel)) q0 b4.1 b4.2 b3.1 b3.2
  rw [← Rl.q_mul] at b5
  refine sep_of (V := (Rl.q x + Rl.q f * Rl.sq E + Rl.q b * Rl.sq C) * (Rl.q x - Rl.q f * Rl.sq E - Rl.q b * Rl.sq C) * (Rl.q x - Rl.q f * Rl.sq E + Rl.q b * Rl.sq C))
    (N := (x * x + f * f * E - b * b * C) * (x * x + f * f * E - b * b * C) - 4 * (x * x) * (f * f * E)) (D := 1587600 * 1587600) (B := 2596148429267413814265248164610048) (by decide) ?_ ?_ ?_ (by decide) ?_ ?_ h dlt_pos small2
  · obtain ⟨X, eX⟩ := hx.w
    obtain ⟨F, eF⟩ := hf.w
    obtain ⟨B, eB⟩ := hb.w
    obtain ⟨c, ec⟩ := hC.w
    obtain ⟨g, eg⟩ := hE.w
    refine ⟨(X * X * 9 + F * F * g - B * B * c) * (X * X * 9 + F * F * g - B * B * c) - 4 * (X * X) * (F * F * g) * 9, ?_⟩
    simp only [Rat.intCast_sub, Rat.intCast_add, Rat.intCast_mul, ← eX, ← eF, ← eB, ← ec, ← eg]
    have e1 : ((1587600 : Int) : Rat) = 1587600 := rfl
    have e2 : ((420 : Int) : Rat) = 420 := rfl
    have e3 : ((9 : Int) : Rat) = 9 := rfl
    have e4 : ((4 : Int) : Rat) = 4 := rfl
    rw [e1, e2, e3, e4]
    grind
  · intro z
    refine hCE.2 ((x * x - f * f * E - b * b * C) / (2 * f * b)) ?_
    have hn : 2 * f * b ≠ 0 := fun w => by
      rcases Rat.mul_eq_zero.mp w with w | w
      · rcases Rat.mul_eq_zero.mp w with w | w
        · exact absurd w (by decide)
        · exact hf0 w
      · exact hb0 w
    have e2 : (x * x - f * f * E - b * b * C) / (2 * f * b) * (2 * f * b) = x * x - f * f * E - b * b * C := Rat.div_mul_cancel hn
    generalize (x * x - f * f * E - b * b * C) / (2 * f * b) = u at *
    have e3 : (u * u - E * C) * ((2 * f * b) * (2 * f * b)) = 0 := by
      have : (u * (2 * f * b)) * (u * (2 * f * b)) = (x * x - f * f * E - b * b * C) * (x * x - f * f * E - b * b * C) := by rw [e2]
      grind
    rcases Rat.mul_eq_zero.mp e3 with w | w
    · grind
    · rcases Rat.mul_eq_zero.mp w with w | w <;> exact (hn w).elim
  · simp only [Rl.q_sub, Rl.q_add, Rl.q_mul, ← hm, ← hm1]
    have : Rl.q 4 = 4 := rfl
    rw [this]
    grind
  · have e : (137438953472 * 137438953472 * 137438953472 : Rat) = 2596148429267413814265248164610048 := by decide +kernel
    rw [e] at b5
    exact b5.1
  · have e : (137438953472 * 137438953472 * 137438953472 : Rat) = 2596148429267413814265248164610048 := by decide +kernel
    rw [e] at b5
    exact b5.2
end

section
variable {k l m ka kb kc kd ke kf : Nat} {a b c d e f p q C E X Y x y z : Rat} {Q : D → Prop}
/-- half as small: sums of two of these are small -/
structure Sh (x : Rat) : Prop where
  w : Wh 420 x
  l : -4294967296 ≤ x
  u : x ≤ 4294967296
theorem Sh.sub (h : Sh x) (g : Sh y) : Sm (x - y) := by
  obtain ⟨⟨X, eX⟩, h1, h2⟩ := h
  obtain ⟨⟨Y, eY⟩, g1, g2⟩ := g
  refine ⟨⟨X - Y, ?_⟩, by grind, by grind⟩
  rw [Rat.intCast_sub, ← eX, ← eY]; grind
theorem Sh.sm (h : Sh x) : Sm x := ⟨h.w, by have := h.l; grind, by have := h.u; grind⟩
theorem Sh.neg (h : Sh x) : Sh (-x) := by
  obtain ⟨⟨X, eX⟩, h1, h2⟩ := h
  refine ⟨⟨-X, ?_⟩, by grind, by grind⟩
  rw [Rat.intCast_neg, ← eX]; grind
theorem Sh.zero : Sh 0 := ⟨⟨0, by decide +kernel⟩, by decide +kernel, by decide +kernel⟩
theorem sep (hC : Th C) (hE : Th E) (hCE : C = E ∨ Nsq (E * C)) (ha : Sh a) (hb : Sh b) (hd : Sh d) (hf : Sh f) (h : val a b C < val d f E) : val a b C + Rl.q dlt < val d f E := by
  have e : val d f E - val a b C = Rl.q (d - a) + Rl.q f * Rl.sq E - Rl.q b * Rl.sq C := by unfold val; rw [Rl.q_sub]; grind
  suffices Rl.q dlt < Rl.q (d - a) + Rl.q f * Rl.sq E - Rl.q b * Rl.sq C by grind
  have h' : 0 < Rl.q (d - a) + Rl.q f * Rl.sq E - Rl.q b * Rl.sq C := by grind
  by_cases b0 : b = 0
  · have e2 : Rl.q (d - a) + Rl.q f * Rl.sq E - Rl.q b * Rl.sq C = Rl.q (d - a) + Rl.q f * Rl.sq E := by rw [b0, Rl.q_zero]; grind
    rw [e2] at h' ⊢
    exact sep1 hE (hd.sub ha) hf.sm h'
  by_cases f0 : f = 0
  · have e2 : Rl.q (d - a) + Rl.q f * Rl.sq E - Rl.q b * Rl.sq C = Rl.q (d - a) + Rl.q (-b) * Rl.sq C := by rw [f0, Rl.q_zero, Rl.q_neg]; grind
    rw [e2] at h' ⊢
    exact sep1 hC (hd.sub ha) hb.neg.sm h'
  rcases hCE with hCE | hCE
  · have e2 : Rl.q (d - a) + Rl.q f * Rl.sq E - Rl.q b * Rl.sq C = Rl.q (d - a) + Rl.q (f - b) * Rl.sq E := by rw [hCE, Rl.q_sub f b]; grind
    rw [e2] at h' ⊢
    exact sep1 hE (hd.sub ha) (hf.sub hb) h'
  · exact sep2 hC hE hCE (hd.sub ha) hf.sm hb.sm f0 b0 h'
/-! ### a fraction between two numbers -/
noncomputable def fnd (v : Rl) (t : Nat) : Rat := Rat.divInt (fl (v * Rl.q ((2 ^ t : Int) : Rat)) + 1) (2 ^ t)
theorem pow2_ne (t : Nat) : (2 ^ t : Int) ≠ 0 := by
  have := Int.pow_pos (n := 2) (m := t) (by decide)
  omega
theorem pow2_q (t : Nat) : (0 : Rat) < ((2 ^ t : Int) : Rat) := by
  have := Rat.intCast_lt_intCast.mpr (Int.pow_pos (n := 2) (m := t) (by decide))
  exact this
theorem fnd_le {v : Rl} {t : Nat} {n : Int} (hn : n = fl (v * Rl.q ((2 ^ t : Int) : Rat))) (h1 : Rl.q n ≤ v * Rl.q ((2 ^ t : Int) : Rat)) : Rl.q (fnd v t) * Rl.q ((2 ^ t : Int) : Rat) ≤ v * Rl.q ((2 ^ t : Int) : Rat) + 1 := by
  have e : fnd v t * ((2 ^ t : Int) : Rat) = ((n + 1 : Int) : Rat) := by
    unfold fnd
    rw [← hn, Rat.divInt_eq_div]
    exact Rat.div_mul_cancel (by have := pow2_q t; grind)
  rw [← Rl.q_mul, e, Rat.intCast_add, Rl.q_add]
  have : Rl.q ((1 : Int) : Rat) = 1 := rfl
  rw [this]
  grind
/-- some doubling is enough -/
theorem fnd_170 {v w : Rl} {n : Int} (hn : n = fl (v * Rl.q ((2 ^ 170 : Int) : Rat))) (h1 : Rl.q n ≤ v * Rl.q ((2 ^ 170 : Int) : Rat)) (h : v + Rl.q dlt < w) : Rl.q (fnd v 170) < w := by
  have k := fnd_le hn h1
  have e : Rl.q dlt * Rl.q ((2 ^ 170 : Int) : Rat) = 1 := by rw [← Rl.q_mul, dlt_eq]; rfl
  have hp : 0 < Rl.q ((2 ^ 170 : Int) : Rat) := by
    have := pow2_q 170
    rw [← Rl.q_zero, Rl.q_lt]; exact this
  refine Classical.byContradiction fun z => ?_
  have g : 0 < Rl.q (fnd v 170) - v - Rl.q dlt := by grind
  have := Rl.mul_pos g hp
  generalize Rl.q ((2 ^ 170 : Int) : Rat) = T at *
  grind
theorem sm_pow2 (t : Nat) : sm (t + 1) (2 ^ t : Int) := by
  unfold sm
  have e : (2 ^ t : Int) = ((2 ^ t : Nat) : Int) := by rw [Int.natCast_pow]; rfl
  rw [e, Int.natAbs_natCast, Nat.pow_succ]
  have := Nat.one_le_two_pow (n := t)
  omega
set_option hygiene false
local macro_rules | `(tactic| keq_rows) => `(tactic| (
    unfold whileW
    obtain ⟨nx, rt', bk, ct⟩ := P
    placed_of0
    have hs2 : sm 171 (2 ^ t : Int) := sm_mono (sm_pow2 t) (by omega)
    have hib := bz_int hs2 (by decide)
    refine sp_whole ?_
    placed_of0
    refine sp_by_fraction hC bC ha hb hib (by decide) (by decide) ?_
    placed_of0
    refine floor_nrm hC bC (ka := 232) (kb := 232) (bz_mul ha hib) (bz_mul hb hib) (by decide) fun n n1 n2 n3 n4 => ?_
    rw [val_mul] at n1 n2 n3
    placed_of0
    refine fraction_ok (pow2_ne t) hs2 (by decide) ?_
    rw [show Rat.divInt (n + 1) (2 ^ t) = fnd (val a b C) t by unfold fnd; rw [← n1]]
    have hbf : bz 709 (fnd (val a b C) t) := by
      unfold fnd
      rw [← n1]
      exact bz_div (pow2_ne t) (sm_mono (sm_add n4 (sm_mono (k := 1) (by unfold sm; decide) (by decide))) (by decide)) (sm_mono hs2 (by decide))
    placed_of1
    rw [cmp_rat (trd_nonneg (by have := hE.1; grind)), val_trd]
    placed_of0
    by_cases hcm : Rl.q (fnd (val a b C) t) < val d f E
    case' pos => (rw [decide_eq_true (by rw [sr_lt]; grind)]; placed_of0)
    case' neg => (rw [decide_eq_false (by rw [sr_lt]; grind)]; placed_of0; (focus exact cmul hs2 sm_2 (by decide)); placed_of0)))
set_option hygiene true
theorem between_loop (hC : Nsq C) (bC : bz 4 C) (hE : Nsq E) (bE : bz 4 E) (ha : bz 61 a) (hb : bz 61 b) (hd : bz 61 d) (hf : bz 61 f) {T : Nat} (hT : T ≤ 170) (h1 : Rl.q (fnd (val a b C) T) < val d f E) (h2 : ∀ t, t < T → ¬ Rl.q (fnd (val a b C) t) < val d f E) :
    ∀ (r t : Nat) (s3 s4 : Sl) (P : Po), t + r = T → P.rt (dr (fnd (val a b C) T)) → whileW (eT (eC (.bool true))) (sSeq (sAsg (eOp fAdd (eCallN 1 F_floor_of (aCons (eCallN 2 F_by_fraction (aCons (eVar 0) (aCons (eCallN 1 F_whole (aCons (eVar 2) aNil)) aNil))) aNil)) (eC (.int 1))) (mgName 3)) (sSeq (sAsg (eCallN 2 F_fraction (aCons (eVar 3) (aCons (eVar 2) aNil))) (mgName 4)) (sSeq (sIf (eT (eOp fLt (eCallN 2 F_compare (aCons (eCallN 1 F_plain (aCons (eVar 4) aNil)) (aCons (eVar 1) aNil))) (eC (.int 0)))) (sRet (eVar 4)) sNext) (sAug 2 fMul (eC (.int 2)))))) (r + 1)
      [.va (nrm a b C), .va (nrm d f E), .va (.int (2 ^ t)), s3, s4] P := by
  intro r
  induction r with
  | zero =>
    intro t s3 s4 P ht hP
    keq_rows
    · have e : t = T := by omega
      rw [e] at hcm
      exact (hcm h1).elim
    · have e : t = T := by omega
      rw [← e] at hP
      exact hP
  | succ r ih =>
    intro t s3 s4 P ht hP
    keq_rows
    · have e2 : (2 ^ t * 2 : Int) = 2 ^ (t + 1) := by rw [Int.pow_succ]
      have := ih (t + 1) (.va (.int (n + 1))) (.va (dr (fnd (val a b C) t))) ⟨nx, rt', bk, ct⟩ (by omega) hP
      rw [← e2] at this
      exact this
    · exact (h2 t (by omega) hcm).elim
end
set_option hygiene false
local macro_rules | `(tactic| keq_rows) => `(tactic| (
    unfold whileW
    obtain ⟨nx, rt', bk, ct⟩ := P
    placed_of0
    have hs2 : sm 171 (2 ^ t : Int) := sm_mono (sm_pow2 t) (by omega)
    have hib := bz_int hs2 (by decide)
    refine sp_whole ?_
    placed_of0
    refine sp_by_fraction hC bC ha hb hib (by decide) (by decide) ?_
    placed_of0
    refine floor_nrm hC bC (ka := 232) (kb := 232) (bz_mul ha hib) (bz_mul hb hib) (by decide) fun n n1 n2 n3 n4 => ?_
    rw [val_mul] at n1 n2 n3
    placed_of0
    refine fraction_ok (pow2_ne t) hs2 (by decide) ?_
    rw [show Rat.divInt (n + 1) (2 ^ t) = fnd (val a b C) t by unfold fnd; rw [← n1]]
    have hbf : bz 709 (fnd (val a b C) t) := by
      unfold fnd
      rw [← n1]
      exact bz_div (pow2_ne t) (sm_mono (sm_add n4 (sm_mono (k := 1) (by unfold sm; decide) (by decide))) (by decide)) (sm_mono hs2 (by decide))
    placed_of1
    rw [cmp_rat (trd_nonneg (by have := hE.1; grind)), val_trd]
    placed_of0
    by_cases hcm : Rl.q (fnd (val a b C) t) < val d f E
    case' pos => (rw [decide_eq_true (by rw [sr_lt]; grind)]; placed_of0)
    case' neg => (rw [decide_eq_false (by rw [sr_lt]; grind)]; placed_of0; (focus exact cmul hs2 sm_2 (by decide)); placed_of0)))
set_option hygiene true

section
variable {k l m ka kb kc kd ke kf : Nat} {a b c d e f p q C E X Y x y z : Rat} {Q : D → Prop}
theorem floor_ex {v : Rl} : ∀ (n : Nat) (lo : Int), Rl.q lo ≤ v → v < Rl.q ((lo + n : Int) : Rat) → ∃ j : Int, Rl.q j ≤ v ∧ v < Rl.q ((j + 1 : Int) : Rat)
  | 0, lo, h1, h2 => by
    rw [show lo + ((0 : Nat) : Int) = lo by omega] at h2
    grind
  | n + 1, lo, h1, h2 => by
    by_cases h : v < Rl.q ((lo + 1 : Int) : Rat)
    · exact ⟨lo, h1, h⟩
    · refine floor_ex n (lo + 1) (by grind) ?_
      rw [show lo + 1 + (n : Int) = lo + ((n + 1 : Nat) : Int) by omega]
      exact h2
theorem fl_of {v : Rl} {B : Int} (h1 : Rl.q ((-B : Int) : Rat) ≤ v) (h2 : v < Rl.q B) : Rl.q (fl v) ≤ v ∧ v < Rl.q ((fl v + 1 : Int) : Rat) := by
  have hB : -B < B := by
    have : Rl.q ((-B : Int) : Rat) < Rl.q B := by grind
    rw [Rl.q_lt, Rat.intCast_lt_intCast] at this
    exact this
  obtain ⟨j, j1, j2⟩ := floor_ex (v := v) (B - -B).toNat (-B) h1 (by rw [show -B + ((B - -B).toNat : Int) = B by omega]; exact h2)
  have := fl_eq j1 j2
  rw [← this]
  exact ⟨j1, j2⟩
theorem val_bd (hC : Th C) (ha : Sh a) (hb : Sh b) : -Rl.q 42949672960 ≤ val a b C ∧ val a b C ≤ Rl.q 42949672960 := by
  have h0 : 0 ≤ C := by have := hC.n.1; grind
  have k1 := q_bd ha.sm
  have k2 := rl_mul_le (q_bd hb.sm).1 (q_bd hb.sm).2 (q_nn (by decide)) (Rl.sq_nonneg C) (root_le4 h0 hC.u)
  rw [q_num4] at k2
  have e : Rl.q 8589934592 + Rl.q (8589934592 * 4) ≤ Rl.q 42949672960 := by rw [← Rl.q_add, Rl.q_le]; decide +kernel
  unfold val
  constructor <;> grind
theorem fl_val (hC : Th C) (ha : Sh a) (hb : Sh b) (t : Nat) : Rl.q (fl (val a b C * Rl.q ((2 ^ t : Int) : Rat))) ≤ val a b C * Rl.q ((2 ^ t : Int) : Rat) := by
  have h := val_bd hC ha hb
  have hp : 0 < Rl.q ((2 ^ t : Int) : Rat) := by
    rw [← Rl.q_zero, Rl.q_lt]; exact pow2_q t
  have k := Rl.mul_bd (q_nn (by decide)) (Rl.le_iff.mpr (.inl hp)) h.1 h.2 (show -Rl.q ((2 ^ t : Int) : Rat) ≤ Rl.q ((2 ^ t : Int) : Rat) by grind) (show Rl.q ((2 ^ t : Int) : Rat) ≤ Rl.q ((2 ^ t : Int) : Rat) by grind)
  rw [← Rl.q_mul] at k
  have e : (42949672960 : Rat) * ((2 ^ t : Int) : Rat) = ((42949672960 * 2 ^ t : Int) : Rat) := by
    rw [Rat.intCast_mul]; rfl
  rw [e] at k
  refine (fl_of (B := 42949672960 * 2 ^ t + 1) ?_ ?_).1
  · have : Rl.q ((-(42949672960 * 2 ^ t + 1) : Int) : Rat) < -Rl.q ((42949672960 * 2 ^ t : Int) : Rat) := by
      rw [← Rl.q_neg, Rl.q_lt, ← Rat.intCast_neg, Rat.intCast_lt_intCast]; omega
    grind
  · have : Rl.q ((42949672960 * 2 ^ t : Int) : Rat) < Rl.q ((42949672960 * 2 ^ t + 1 : Int) : Rat) := by
      rw [Rl.q_lt, Rat.intCast_lt_intCast]; omega
    grind
theorem least (P : Nat → Prop) : ∀ n, P n → ∃ T, T ≤ n ∧ P T ∧ ∀ t, t < T → ¬ P t := by
  intro n
  induction n using Nat.strongRecOn with
  | _ n ih =>
    intro h
    by_cases g : ∃ t, t < n ∧ P t
    · obtain ⟨t, t1, t2⟩ := g
      obtain ⟨T, a1, a2, a3⟩ := ih t t1 t2
      exact ⟨T, by omega, a2, a3⟩
    · exact ⟨n, Nat.le_refl _, h, fun t ht z => g ⟨t, ht, z⟩⟩
theorem fnd_least (hC : Th C) (hE : Th E) (hCE : C = E ∨ Nsq (E * C)) (ha : Sh a) (hb : Sh b) (hd : Sh d) (hf : Sh f) (h : val a b C < val d f E) :
    ∃ T, T ≤ 170 ∧ Rl.q (fnd (val a b C) T) < val d f E ∧ ∀ t, t < T → ¬ Rl.q (fnd (val a b C) t) < val d f E :=
  least (fun t => Rl.q (fnd (val a b C) t) < val d f E) 170 (fnd_170 rfl (fl_val hC ha hb 170) (sep hC hE hCE ha hb hd hf h))
theorem between_ok (hC : Nsq C) (bC : bz 4 C) (hE : Nsq E) (bE : bz 4 E) (ha : bz 61 a) (hb : bz 61 b) (hd : bz 61 d) (hf : bz 61 f) {T : Nat} (hT : T ≤ 170) (h1 : Rl.q (fnd (val a b C) T) < val d f E) (h2 : ∀ t, t < T → ¬ Rl.q (fnd (val a b C) t) < val d f E)
    (h : Q (dr (fnd (val a b C) T))) : F_between [nrm a b C, nrm d f E] Q := by
  unfold F_between
  placed_of0
  exact ⟨T + 1, between_loop hC bC hE bE ha hb hd hf hT h1 h2 T 0 _ _ _ (by omega) h⟩
end

section
variable {k l m ka kb kc kd ke kf : Nat} {a b c d e f p q C E X Y x y z : Rat} {Q : D → Prop}
theorem Pt.sh (h : Pt p) : Wh 420 p ∧ -500000000 ≤ p ∧ p ≤ 500000000 := by
  obtain ⟨u, l, h1, h2, h3, h4, rfl⟩ := h
  have u1 : ((-500000000 : Int) : Rat) ≤ (u : Rat) := Rat.intCast_le_intCast.mpr (by omega)
  have u2 : (u : Rat) ≤ ((500000000 : Int) : Rat) := Rat.intCast_le_intCast.mpr (by omega)
  have e1 : ((-500000000 : Int) : Rat) = -500000000 := rfl
  have e2 : ((500000000 : Int) : Rat) = 500000000 := rfl
  rw [e1] at u1
  rw [e2] at u2
  have key : ∀ (r : Int) (x : Rat), x * (r : Rat) = u → 0 < r → ∀ s : Int, r * s = 420 → Wh 420 x ∧ -500000000 ≤ x ∧ x ≤ 500000000 := by
    intro r x hx hr s hs
    have r1 : ((1 : Int) : Rat) ≤ (r : Rat) := Rat.intCast_le_intCast.mpr (by omega)
    have e3 : ((1 : Int) : Rat) = 1 := rfl
    rw [e3] at r1
    refine ⟨⟨u * s, ?_⟩, ?_, ?_⟩
    · rw [Rat.intCast_mul, ← hx, ← hs, Rat.intCast_mul]; grind
    · refine Classical.byContradiction fun z => ?_
      have : 0 ≤ (-x) * ((r : Rat) - 1) := Rat.mul_nonneg (by grind) (by grind)
      grind
    · refine Classical.byContradiction fun z => ?_
      have : 0 ≤ x * ((r : Rat) - 1) := Rat.mul_nonneg (by grind) (by grind)
      grind
  have hl : (l : Rat) ≠ 0 := fun z => by
    rw [Rat.intCast_eq_zero_iff] at z
    omega
  have hx : Rat.divInt u l * (l : Rat) = u := by
    rw [Rat.divInt_eq_div]; exact Rat.div_mul_cancel hl
  have hc : l = 1 ∨ l = 2 ∨ l = 3 ∨ l = 4 ∨ l = 5 ∨ l = 6 ∨ l = 7 := by omega
  rcases hc with rfl | rfl | rfl | rfl | rfl | rfl | rfl
  · exact key 1 _ hx (by decide) 420 (by decide)
  · exact key 2 _ hx (by decide) 210 (by decide)
  · exact key 3 _ hx (by decide) 140 (by decide)
  · exact key 4 _ hx (by decide) 105 (by decide)
  · exact key 5 _ hx (by decide) 84 (by decide)
  · exact key 6 _ hx (by decide) 70 (by decide)
  · exact key 7 _ hx (by decide) 60 (by decide)
theorem sh_a {p p' : Rat} (h1 : Pt p) (h2 : Pt p') (h : a = p ∨ a = p + 2 * p') : Sh a := by
  obtain ⟨w1, l1, u1⟩ := h1.sh
  obtain ⟨w2, l2, u2⟩ := h2.sh
  rcases h with rfl | rfl
  · exact ⟨w1, by grind, by grind⟩
  · obtain ⟨n, hn⟩ := w1
    obtain ⟨m, hm⟩ := w2
    refine ⟨⟨n + 2 * m, ?_⟩, by grind, by grind⟩
    rw [Rat.intCast_add, Rat.intCast_mul, ← hn, ← hm]
    have : ((2 : Int) : Rat) = 2 := rfl
    rw [this]; grind
theorem sh_b {p' : Rat} (h2 : Pt p') (h : b = p' ∨ b = 0) : Sh b := by
  obtain ⟨w2, l2, u2⟩ := h2.sh
  rcases h with rfl | rfl
  · exact ⟨w2, by grind, by grind⟩
  · exact Sh.zero
theorem th_of (h : Nsq C) (hw : ∃ n : Int, C * ((9 : Int) : Rat) = n) (hu : C ≤ 16) : Th C := ⟨h, hw, hu⟩
theorem th_2 : Th 2 := th_of nsq_2 ⟨18, by decide +kernel⟩ (by decide)
theorem th_3 : Th 3 := th_of cok_3.n ⟨27, by decide +kernel⟩ (by decide)
theorem th_10 : Th 10 := th_of cok_10.n ⟨90, by decide +kernel⟩ (by decide)
theorem th_11 : Th 11 := th_of cok_11.n ⟨99, by decide +kernel⟩ (by decide)
theorem th_59 : Th (dv 5 9) := th_of cok_59.n ⟨5, by decide +kernel⟩ (by decide +kernel)
def R1 (c : Rat) : Prop := c = 2 ∨ c = 3 ∨ c = 10
def R2 (c : Rat) : Prop := c = 2 ∨ c = dv 5 9 ∨ c = 11
theorem list1 : ∀ d ∈ [PyData.tuple [.int 2, .int 1], .tuple [.int 3, .int 1], .tuple [.int 10, .int 1]], ∃ c C, d = dr c ∧ Cok c C ∧ R1 c := by
  intro d hd
  simp only [List.mem_cons, List.not_mem_nil, or_false] at hd
  rcases hd with rfl | rfl | rfl
  · exact ⟨2, 2, rfl, cok_2, .inl rfl⟩
  · exact ⟨3, 3, rfl, cok_3, .inr (.inl rfl)⟩
  · exact ⟨10, 10, rfl, cok_10, .inr (.inr rfl)⟩
theorem list2 : ∀ d ∈ [PyData.tuple [.int 2, .int 1], .tuple [.int 5, .int 9], .tuple [.int 11, .int 1]], ∃ c C, d = dr c ∧ Cok c C ∧ R2 c := by
  intro d hd
  simp only [List.mem_cons, List.not_mem_nil, or_false] at hd
  rcases hd with rfl | rfl | rfl
  · exact ⟨2, 2, rfl, cok_2, .inl rfl⟩
  · exact ⟨dv 5 9, _, rfl, cok_59, .inr (.inl rfl)⟩
  · exact ⟨11, 11, rfl, cok_11, .inr (.inr rfl)⟩
theorem r1_th (hc : Cok c C) (h : R1 c) : Th C ∧ (C = 2 ∨ C = 3 ∨ C = 10) := by
  have e : C = c := by
    rcases hc.kind with e | e | e
    · exact e
    · rw [e] at h; rcases h with h | h | h <;> exact absurd h (by decide)
    · rw [e] at h; rcases h with h | h | h <;> exact absurd h (by decide)
  rw [e]
  rcases h with rfl | rfl | rfl
  · exact ⟨th_2, .inl rfl⟩
  · exact ⟨th_3, .inr (.inl rfl)⟩
  · exact ⟨th_10, .inr (.inr rfl)⟩
theorem r2_th (hc : Cok c C) (h : R2 c) : Th C ∧ (C = 2 ∨ C = dv 5 9 ∨ C = 11) := by
  have e : C = c := by
    rcases hc.kind with e | e | e
    · exact e
    · rw [e] at h; rcases h with h | h | h <;> exact absurd h (by decide +kernel)
    · rw [e] at h; rcases h with h | h | h <;> exact absurd h (by decide +kernel)
  rw [e]
  rcases h with rfl | rfl | rfl
  · exact ⟨th_2, .inl rfl⟩
  · exact ⟨th_59, .inr (.inl rfl)⟩
  · exact ⟨th_11, .inr (.inr rfl)⟩
theorem ce_ok (h1 : C = 2 ∨ C = 3 ∨ C = 10) (h2 : E = 2 ∨ E = dv 5 9 ∨ E = 11) : C = E ∨ Nsq (E * C) := by
  rcases h1 with rfl | rfl | rfl <;> rcases h2 with rfl | rfl | rfl
  · exact .inl rfl
  · exact .inr (nsq_of (k := 3) (by decide +kernel) (by decide +kernel) (by decide +kernel))
  · exact .inr (nsq_of (k := 4) (by decide +kernel) (by decide +kernel) (by decide +kernel))
  · exact .inr (nsq_of (k := 2) (by decide +kernel) (by decide +kernel) (by decide +kernel))
  · exact .inr (nsq_of (k := 2) (by decide +kernel) (by decide +kernel) (by decide +kernel))
  · exact .inr (nsq_of (k := 5) (by decide +kernel) (by decide +kernel) (by decide +kernel))
  · exact .inr (nsq_of (k := 4) (by decide +kernel) (by decide +kernel) (by decide +kernel))
  · exact .inr (nsq_of (k := 7) (by decide +kernel) (by decide +kernel) (by decide +kernel))
  · exact .inr (nsq_of (k := 10) (by decide +kernel) (by decide +kernel) (by decide +kernel))
end

section
variable {k l m ka kb kc kd ke kf : Nat} {a b c d e f p q C E X Y x y z : Rat} {Q : D → Prop}
theorem unit_loop {s0 s1 s2 s3 s4 s5 s6 r1 r2 r3 r4 r5 r6 r7 r8 : Sl} : ∀ (j : Nat) (s : Sl) (u : Int) (P : Po) (kk : Nat), sm kk u → kk + 4 * j < 1000 → (∀ s', P.nx [s0, s1, s2, s3, s4, s5, s6, .va (.int (u * 10 ^ j)), s', r1, r2, r3, r4, r5, r6, r7, r8]) →
    ∀ o : Nat, forW (mgName 8) (sAsg (eOp fMul (eVar 7) (eC (.int 10))) (mgName 7)) ((List.range' o j).map fun t : Nat => PyData.int (0 + (t : Int))) [s0, s1, s2, s3, s4, s5, s6, .va (.int u), s, r1, r2, r3, r4, r5, r6, r7, r8] P
  | 0, s, u, P, kk, _, _, h, o => by
    obtain ⟨nx, rt', bk, ct⟩ := P
    have := h s
    rw [Int.pow_zero, Int.mul_one] at this
    exact this
  | j + 1, s, u, P, kk, hsc, hk, h, o => by
    obtain ⟨nx, rt', bk, ct⟩ := P
    rw [List.range'_succ, List.map_cons]
    placed_of0
    · exact cmul hsc (show sm 4 10 by unfold sm; decide) (by omega)
    placed_of0
    refine unit_loop j _ (u * 10) _ (kk + 4) (sm_mul hsc (show sm 4 10 by unfold sm; decide)) (by omega) (fun s' => ?_) (o + 1)
    have := h s'
    rw [show u * 10 * 10 ^ j = u * 10 ^ (j + 1) by rw [Int.pow_succ]; grind]
    exact this
theorem dr_inv {r : Int} (hr : 0 < r) : PyData.tuple [.int 1, .int r] = dr (Rat.divInt 1 r) := by
  rw [← dr_of (g := 1) (by omega) (by rw [Int.one_gcd]; rfl) (by omega), Int.fdiv_one, Int.fdiv_one]
theorem div_q {n r : Int} (hr : 0 < r) : Rl.q (Rat.divInt n r) * Rl.q r = Rl.q n := by
  rw [← Rl.q_mul, Rat.divInt_eq_div, Rat.div_mul_cancel]
  intro z
  rw [Rat.intCast_eq_zero_iff] at z
  omega
theorem q_posI {r : Int} (hr : 0 < r) : 0 < Rl.q r := by
  rw [← Rl.q_zero, Rl.q_lt]
  exact Rat.intCast_lt_intCast.mpr hr
theorem le_of_mul {A B r : Rl} (hr : 0 < r) (h : A * r ≤ B * r) : A ≤ B := by
  refine Classical.byContradiction fun z => ?_
  have := Rl.mul_pos (show 0 < A - B by grind) hr
  grind
theorem lt_of_mul {A B r : Rl} (hr : 0 < r) (h : A * r < B * r) : A < B := by
  refine Classical.byContradiction fun z => ?_
  rcases Rl.le_iff.mp (show B ≤ A by grind) with g | g
  · have := Rl.mul_pos (show 0 < A - B by grind) hr
    grind
  · rw [g] at h; grind
theorem w_eIf_join {t : En → M Bool} {m n : En → M D} {ρ : En} (y : D) (h : ∀ Q' : D → Prop, Q' y → eIf t m n ρ Q') (q : Q y) : eIf t m n ρ Q := h Q q
theorem w_iteC {bb : Bool} {x y z : D} {ρ ρ' : En} {K : D → Prop} (h : (if bb = true then x else y) = z) (q : K z) : if bb = true then eC x ρ K else eC y ρ' K := by
  subst h
  cases bb
  · exact q
  · exact q
theorem eqv_str (x : Str) : PyData.eqv (.str x) (.str x) = true := by
  show (x == x) = true
  exact beq_self_eq_true x
end

section
variable {k l m ka kb kc kd ke kf : Nat} {a b c d e f p q C E X Y x y z : Rat} {Q : D → Prop}
theorem divInt_self (p : Rat) : Rat.divInt p.num (p.den : Nat) = p := Rat.num_divInt_den p
theorem divInt_6 (p : Rat) : Rat.divInt (p.num * 6) ((p.den : Nat) * 6) = p := by rw [Rat.divInt_mul_right (by decide), divInt_self]
theorem divInt_n (p : Rat) : Rat.divInt (-p.num) (p.den : Nat) = -p := by rw [← Rat.neg_divInt, divInt_self]
theorem divInt_n2 (p : Rat) : Rat.divInt p.num (-(p.den : Nat)) = -p := by rw [Rat.divInt_neg', divInt_n]
theorem divInt_2 (p : Rat) : Rat.divInt p.num (2 * (p.den : Nat)) = p / 2 := by
  have e := div_div p 2
  rw [show ((2 : Rat).num) = 2 from rfl, show ((2 : Rat).den : Int) = 1 from rfl, Int.mul_one, Int.mul_comm] at e
  exact e
theorem sp_middle (hp : bz k p) (hq : bz l q) (hk : k + l < 7900) (h : Q (dr ((p + q) / 2))) : F_middle [dr p, dr q] Q := by
  unfold F_middle
  placed_of1
  exact h
local macro_rules | `(tactic| dl_keeps) => `(tactic| (with_reducible apply sp_middle; (focus pv_meta); (focus pv_meta); (focus pv_meta)))
theorem eqv_bool (x : Bool) : PyData.eqv (.bool x) (.bool x) = true := by cases x <;> rfl
theorem sp_is_less (hp : bz k p) (hq : bz l q) (hk : k + l < 7900) (h : Q (.bool (decide (p.num * (q.den : Nat) < q.num * (p.den : Nat))))) : F_is_less [dr p, dr q] Q := by
  have h1 := hp.1
  have h2 := hq.1
  have h3 := sm_den hp
  have h4 := sm_den hq
  unfold F_is_less
  placed_of0
  · exact cmul h1 h4 (by omega)
  placed_of0
  · exact cmul h2 h3 (by omega)
  placed_of0
  exact h
local macro_rules | `(tactic| dl_keeps) => `(tactic| (with_reducible apply sp_is_less; (focus pv_meta); (focus pv_meta); (focus pv_meta)))
theorem sp_floor (hp : bz k p) (hk : k < 7900) (h : Q (.int (p.num.fdiv (p.den : Nat)))) : F_floor [dr p] Q := by
  unfold F_floor
  placed_of0
  · exact cdv (sm_den hp) (den_ne p) (by omega)
  placed_of0
  exact h
local macro_rules | `(tactic| dl_keeps) => `(tactic| (with_reducible apply sp_floor; (focus pv_meta); (focus pv_meta)))
end
local macro_rules | `(tactic| dl_keeps) => `(tactic| (with_reducible apply sp_middle; (focus pv_meta); (focus pv_meta); (focus pv_meta)))
local macro_rules | `(tactic| dl_keeps) => `(tactic| (with_reducible apply sp_is_less; (focus pv_meta); (focus pv_meta); (focus pv_meta)))
local macro_rules | `(tactic| dl_keeps) => `(tactic| (with_reducible apply sp_floor; (focus pv_meta); (focus pv_meta)))

/-! ### rows of numbers -/
structure Nu where
  a : Rat
  b : Rat
  C : Rat
  hN : Nsq C
  hB : bz 4 C
  ha : bz 61 a
  hb : bz 61 b
abbrev Nu.d (x : Nu) : D := nrm x.a x.b x.C
noncomputable abbrev Nu.v (x : Nu) : Rl := val x.a x.b x.C
theorem Nu.t0 (x : Nu) : 0 ≤ trd x.b x.C := trd_nonneg (by have := x.hN.1; grind)
section
variable {Q : D → Prop}
theorem nu_compare (x y : Nu) (h : Q (.int (sr (x.v - y.v)))) : F_compare [x.d, y.d] Q := by
  refine sp_compare x.ha x.hb (bz_trd1 x.hB) y.ha y.hb (bz_trd1 y.hB) (by decide) ?_
  rw [cmp_val x.t0 y.t0, val_trd, val_trd]
  exact h
def Rc (c : Rat) : Prop := True
theorem list3 : ∀ d ∈ [PyData.tuple [.int 2, .int 1], .tuple [.int 3, .int 1], .tuple [.int 5, .int 4], .tuple [.int 0, .int 1]], ∃ c C, d = dr c ∧ Cok c C ∧ Rc c := by
  intro d hd
  simp only [List.mem_cons, List.not_mem_nil, or_false] at hd
  rcases hd with rfl | rfl | rfl | rfl
  · exact ⟨2, 2, rfl, cok_2, trivial⟩
  · exact ⟨3, 3, rfl, cok_3, trivial⟩
  · exact ⟨dv 5 4, _, rfl, cok_54, trivial⟩
  · exact ⟨0, 2, rfl, cok_0, trivial⟩
end

section
variable {Q : D → Prop}
noncomputable def lev (x y : Nu) : Bool := decide (sr (x.v - y.v) ≤ 0)
theorem lev_iff {x y : Nu} : lev x y = true ↔ x.v ≤ y.v := by
  unfold lev
  rw [decide_eq_true_iff, sr_le]
  constructor <;> intro h <;> grind
theorem filt_le {s0 s1 s3 s4 : Sl} (one : Nu) : ∀ (ys acc : List Nu) (Q : List D → Prop), Q ((acc ++ ys.filter (fun y => lev y one)).map Nu.d) →
    lcW (mgName 4) (eT (eOp fLe (eCallN 2 F_compare (aCons (eVar 4) (aCons (eVar 2) aNil))) (eC (.int 0)))) (eVar 4) [s0, s1, .va one.d, s3, s4] (ys.map Nu.d) (acc.map Nu.d) Q
  | [], acc, Q, h => by
    rw [List.filter_nil, List.append_nil] at h
    exact h
  | y :: ys, acc, Q, h => by
    rw [List.map_cons]
    refine w_lcC ?_
    placed_of0
    refine nu_compare y one ?_
    placed_of0
    rw [show decide (sr (y.v - one.v) ≤ 0) = lev y one from rfl]
    cases e : lev y one with
    | true =>
      placed_of0
      have := filt_le (s0 := s0) (s1 := s1) (s3 := s3) (s4 := s4) one ys (acc ++ [y]) Q (by rw [List.filter_cons_of_pos (p := fun y => lev y one) e] at h; rw [List.append_assoc]; exact h)
      rw [List.map_append] at this
      exact this
    | false =>
      placed_of0
      exact filt_le one ys acc Q (by rw [List.filter_cons_of_neg (p := fun y => lev y one) (by rw [e]; decide)] at h; exact h)
/-- in order -/
def Up (ys : List Nu) : Prop := ys.Pairwise fun x y => x.v ≤ y.v
theorem filter_all (p : Nu → Bool) : ∀ (l : List Nu), (∀ x ∈ l, p x = false) → l.filter p = []
  | [], _ => rfl
  | x :: l, h => by
    rw [List.filter_cons_of_neg (by rw [h x List.mem_cons_self]; decide)]
    exact filter_all p l fun z hz => h z (List.mem_cons_of_mem _ hz)
theorem up_split (one : Nu) : ∀ {ys : List Nu}, Up ys → ys = ys.filter (fun y => lev y one) ++ ys.filter (fun y => !lev y one)
  | [], _ => rfl
  | y :: ys, h => by
    obtain ⟨h1, h2⟩ := List.pairwise_cons.mp h
    cases e : lev y one with
    | true =>
      rw [List.filter_cons_of_pos (p := fun y => lev y one) e, List.filter_cons_of_neg (p := fun y => !lev y one) (by rw [e]; decide), List.cons_append, ← up_split one h2]
    | false =>
      have hn : ∀ x ∈ ys, lev x one = false := fun x hx => by
        cases e2 : lev x one with
        | false => rfl
        | true =>
          have a1 := lev_iff.mp e2
          have a2 := h1 x hx
          have : y.v ≤ one.v := by grind
          rw [lev_iff.mpr this] at e
          cases e
      have k1 : ys.filter (fun y => lev y one) = [] := filter_all _ _ hn
      have k2 : ys.filter (fun y => !lev y one) = ys := List.filter_eq_self.mpr fun x hx => by rw [hn x hx]; rfl
      rw [List.filter_cons_of_neg (p := fun y => lev y one) (by rw [e]; decide), List.filter_cons_of_pos (p := fun y => !lev y one) (by rw [e]; rfl), k1, k2]
      rfl
theorem up_insert (one : Nu) {ys : List Nu} (h : Up ys) : Up (ys.filter (fun y => lev y one) ++ one :: ys.filter (fun y => !lev y one)) := by
  have hs := up_split one h
  rw [hs] at h
  obtain ⟨h1, h2, h3⟩ := List.pairwise_append.mp h
  refine List.pairwise_append.mpr ⟨?_, List.pairwise_cons.mpr ⟨fun x hx => ?_, ?_⟩, fun x hx y hy => ?_⟩
  · exact h.sublist (List.sublist_append_left _ _)
  · have := (List.mem_filter.mp hx).2
    have hle : ¬ x.v ≤ one.v := fun z => by rw [lev_iff.mpr z] at this; cases this
    grind
  · exact h.sublist (List.sublist_append_right _ _)
  · have hx1 := lev_iff.mp (List.mem_filter.mp hx).2
    rcases List.mem_cons.mp hy with rfl | hy
    · exact hx1
    · have := (List.mem_filter.mp hy).2
      have hle : ¬ y.v ≤ one.v := fun z => by rw [lev_iff.mpr z] at this; cases this
      grind
end

section
variable {Q : D → Prop}
theorem w_kIns {i : Nat} {ds : List D} {ρ ρ' : En} {nx : En → Prop} {n : Int} {d : D} (h1 : ds.length < 100000) (h2 : 0 ≤ n) (h3 : n ≤ 100000) (h : ρ.set i (.ow (ds.take n.toNat ++ [d] ++ ds.drop n.toNat)) = ρ') (q : nx ρ') : kIns i ds ρ nx [.int n, d] := by
  subst h; exact ⟨h1, h2, h3, q⟩
theorem sort_loop {s0 : Sl} : ∀ (xs ys : List Nu) (s2 s3 s4 : Sl) (P : Po), Up ys → xs.length + ys.length < 1000 → (∀ (zs : List Nu) (s2 s3 s4 : Sl), Up zs → zs.Perm (ys ++ xs) → P.nx [s0, .ow (zs.map Nu.d), s2, s3, s4]) →
    forW (mgName 2) (sSeq (sAsg (eCall fLen (aCons (eLc (itO 1) [4] (mgName 4) (eT (eOp fLe (eCallN 2 F_compare (aCons (eVar 4) (aCons (eVar 2) aNil))) (eC (.int 0)))) (eVar 4)) aNil)) (mgName 3)) (sIns 1 (aCons (eVar 3) (aCons (eVar 2) aNil)))) (xs.map Nu.d) [s0, .ow (ys.map Nu.d), s2, s3, s4] P
  | [], ys, s2, s3, s4, P, hu, hl, hP => by
    obtain ⟨nx, rt, bk, ct⟩ := P
    exact hP ys s2 s3 s4 hu (by rw [List.append_nil])
  | x :: xs, ys, s2, s3, s4, P, hu, hl, hP => by
    obtain ⟨nx, rt, bk, ct⟩ := P
    have hl1 : ys.length < 999 := by rw [List.length_cons] at hl; omega
    rw [List.map_cons]
    placed_of0
    refine w_and (by rw [List.length_map]; omega) ?_
    refine filt_le (s0 := s0) (s1 := .ow (ys.map Nu.d)) (s3 := s3) (s4 := .no) x ys [] _ ?_
    rw [List.nil_append]
    placed_of0
    have hf : (ys.filter fun y => lev y x).length ≤ ys.length := List.length_filter_le _ _
    have hsp := up_split x hu
    refine w_kIns (by rw [List.length_map]; omega) (by omega) (by rw [List.length_map]; omega) rfl ?_
    have e : (ys.map Nu.d).take (((ys.filter fun y => lev y x).map Nu.d).length : Int).toNat ++ [x.d] ++ (ys.map Nu.d).drop (((ys.filter fun y => lev y x).map Nu.d).length : Int).toNat =
        (ys.filter (fun y => lev y x) ++ x :: ys.filter (fun y => !lev y x)).map Nu.d := by
      rw [Int.toNat_natCast]
      generalize ha : ys.filter (fun y => lev y x) = A at *
      generalize hb : ys.filter (fun y => !lev y x) = B at *
      rw [hsp, List.map_append, List.take_left, List.drop_left, List.map_append, List.map_cons, List.append_assoc]
      rfl
    rw [e]
    have key := sort_loop (s0 := s0) xs (ys.filter (fun y => lev y x) ++ x :: ys.filter (fun y => !lev y x)) (.va x.d) (.va (.int ((ys.filter fun y => lev y x).map Nu.d).length)) s4 ⟨nx, rt, bk, ct⟩ (up_insert x hu) (by
      have hp : (ys.filter (fun y => lev y x)).length + (ys.filter (fun y => !lev y x)).length = ys.length := by
        have := congrArg List.length hsp
        rw [List.length_append] at this
        exact this.symm
      rw [List.length_append, List.length_cons]
      rw [List.length_cons] at hl
      omega) (fun zs s2 s3 s4 hz hp => hP zs s2 s3 s4 hz (hp.trans ?_))
    · exact key
    · generalize ha : ys.filter (fun y => lev y x) = A at *
      generalize hb : ys.filter (fun y => !lev y x) = B at *
      rw [hsp, List.append_assoc, List.append_assoc, List.cons_append]
      exact List.Perm.append_left A List.perm_middle.symm
theorem sorted_roots_ok {xs : List Nu} (hl : xs.length < 900) (h : ∀ zs : List Nu, Up zs → zs.Perm xs → Q (.tuple (zs.map Nu.d))) : F_sorted_roots [.list (xs.map Nu.d)] Q := by
  unfold F_sorted_roots
  placed_of0
  refine sort_loop xs [] _ _ _ _ List.Pairwise.nil (by simp; omega) fun zs s2 s3 s4 hz hp => ?_
  placed_of0
  exact h zs hz hp
end

section
variable {Q : D → Prop}
/-- the first of the least (sg = 1), of the greatest (sg = -1) -/
noncomputable def lst (sg : Int) (b : Nu) : List Nu → Nu
  | [] => b
  | y :: ys => lst sg (if sg * sr (y.v - b.v) < 0 then y else b) ys
theorem lst_spec (sg : Int) (hsg : sg = 1 ∨ sg = -1) : ∀ (ys pre post : List Nu) (b : Nu), (∀ y ∈ pre, sg * sr (b.v - y.v) < 0) → (∀ y ∈ post, sg * sr (b.v - y.v) ≤ 0) →
    ∃ pre' post', pre ++ b :: (post ++ ys) = pre' ++ lst sg b ys :: post' ∧ (∀ y ∈ pre', sg * sr ((lst sg b ys).v - y.v) < 0) ∧ (∀ y ∈ post', sg * sr ((lst sg b ys).v - y.v) ≤ 0)
  | [], pre, post, b, h1, h2 => ⟨pre, post, by rw [List.append_nil]; rfl, h1, h2⟩
  | y :: ys, pre, post, b, h1, h2 => by
    have tr : ∀ {p q r : Nu}, sg * sr (p.v - q.v) < 0 → sg * sr (q.v - r.v) ≤ 0 → sg * sr (p.v - r.v) < 0 := fun {p q r} g1 g2 => by
      rcases hsg with rfl | rfl
      · rw [Int.one_mul] at *
        rw [sr_lt] at *
        rw [sr_le] at g2
        grind
      · rw [Int.neg_one_mul] at *
        have g1' : 0 < sr (p.v - q.v) := by omega
        have g2' : 0 ≤ sr (q.v - r.v) := by omega
        rw [sr_gt] at g1'
        have g3 : ¬ sr (q.v - r.v) < 0 := by omega
        rw [sr_lt] at g3
        have : 0 < sr (p.v - r.v) := by rw [sr_gt]; grind
        omega
    unfold lst
    by_cases h : sg * sr (y.v - b.v) < 0
    · rw [if_pos h]
      have hbb : sg * sr (b.v - b.v) ≤ 0 := by rw [show b.v - b.v = 0 by grind, sr_zero]; omega
      obtain ⟨p, q, e, k1, k2⟩ := lst_spec sg hsg ys (pre ++ b :: post) [] y (fun z hz => by
        rw [List.mem_append, List.mem_cons] at hz
        rcases hz with hz | rfl | hz
        · exact tr h (Int.le_of_lt (h1 z hz))
        · exact tr h hbb
        · exact tr h (h2 z hz)) (fun z hz => by simp at hz)
      refine ⟨p, q, ?_, k1, k2⟩
      rw [← e]
      simp
    · rw [if_neg h]
      have h' : sg * sr (b.v - y.v) ≤ 0 := by
        rw [show b.v - y.v = -(y.v - b.v) by grind, sr_neg', Int.mul_neg]
        omega
      obtain ⟨p, q, e, k1, k2⟩ := lst_spec sg hsg ys pre (post ++ [y]) b h1 (fun z hz => by
        rw [List.mem_append, List.mem_singleton] at hz
        rcases hz with hz | rfl
        · exact h2 z hz
        · exact h')
      refine ⟨p, q, ?_, k1, k2⟩
      rw [← e]
      simp
end

section
variable {Q : D → Prop}
theorem least_loop {s0 : Sl} : ∀ (ys : List Nu) (b : Nu) (s2 : Sl) (P : Po), (∀ s2, P.nx [s0, .va (lst 1 b ys).d, s2]) →
    forW (mgName 2) (sAsg (eIf (eT (eOp fLt (eCallN 2 F_compare (aCons (eVar 2) (aCons (eVar 1) aNil))) (eC (.int 0)))) (eVar 2) (eVar 1)) (mgName 1)) (ys.map Nu.d) [s0, .va b.d, s2] P
  | [], b, s2, P, h => by
    obtain ⟨nx, rt, bk, ct⟩ := P
    exact h s2
  | y :: ys, b, s2, P, h => by
    obtain ⟨nx, rt, bk, ct⟩ := P
    rw [List.map_cons]
    unfold lst at h
    rw [Int.one_mul] at h
    placed_of0
    refine nu_compare y b ?_
    placed_of0
    by_cases e : sr (y.v - b.v) < 0
    · rw [decide_eq_true e]
      rw [if_pos e] at h
      placed_of0
      exact least_loop ys y _ ⟨nx, rt, bk, ct⟩ h
    · rw [decide_eq_false e]
      rw [if_neg e] at h
      placed_of0
      exact least_loop ys b _ ⟨nx, rt, bk, ct⟩ h
theorem great_loop {s0 : Sl} : ∀ (ys : List Nu) (b : Nu) (s2 : Sl) (P : Po), (∀ s2, P.nx [s0, .va (lst (-1) b ys).d, s2]) →
    forW (mgName 2) (sAsg (eIf (eT (eOp fGt (eCallN 2 F_compare (aCons (eVar 2) (aCons (eVar 1) aNil))) (eC (.int 0)))) (eVar 2) (eVar 1)) (mgName 1)) (ys.map Nu.d) [s0, .va b.d, s2] P
  | [], b, s2, P, h => by
    obtain ⟨nx, rt, bk, ct⟩ := P
    exact h s2
  | y :: ys, b, s2, P, h => by
    obtain ⟨nx, rt, bk, ct⟩ := P
    rw [List.map_cons]
    unfold lst at h
    rw [Int.neg_one_mul] at h
    placed_of0
    refine nu_compare y b ?_
    placed_of0
    by_cases e : 0 < sr (y.v - b.v)
    · rw [decide_eq_true e]
      rw [if_pos (by omega)] at h
      placed_of0
      exact great_loop ys y _ ⟨nx, rt, bk, ct⟩ h
    · rw [decide_eq_false e]
      rw [if_neg (by omega)] at h
      placed_of0
      exact great_loop ys b _ ⟨nx, rt, bk, ct⟩ h
theorem atI_c0 (d : D) (ds : List D) : atI (d :: ds) 0 = some d := by
  have e : ixN (d :: ds).length 0 = some 0 := by
    unfold ixN
    rw [if_pos (by omega), if_pos (by simp)]
    rfl
  unfold atI
  rw [e]
  rfl
theorem cut_1 {α : Type} (x : α) (xs : List α) : cutD (x :: xs) (some 1) none = xs := by
  unfold cutD HT.sIx
  simp
theorem least_ok {x : Nu} {xs : List Nu} (h : Q (lst 1 x xs).d) : F_least_of [.list ((x :: xs).map Nu.d)] Q := by
  unfold F_least_of
  rw [List.map_cons]
  placed_of0
  rw [cut_1]
  refine least_loop xs x _ _ fun s2 => ?_
  placed_of0
  exact h
theorem greatest_ok {x : Nu} {xs : List Nu} (h : Q (lst (-1) x xs).d) : F_greatest_of [.list ((x :: xs).map Nu.d)] Q := by
  unfold F_greatest_of
  rw [List.map_cons]
  placed_of0
  rw [cut_1]
  refine great_loop xs x _ _ fun s2 => ?_
  placed_of0
  exact h
end

section
variable {Q : D → Prop}
theorem toks_inj {a b c d e f : Rat} (h : PySem.W.keyToks (rt a b c) = PySem.W.keyToks (rt d e f)) : rt a b c = rt d e f := by
  simp only [rt, dr, PySem.W.keyToks, PySem.W.keyToksAll, List.cons_append, List.nil_append, List.cons.injEq, Sum.inl.injEq, and_true, true_and] at h
  obtain ⟨h1, h2, h3, h4, h5, h6⟩ := h
  unfold rt dr
  rw [h1, h2, h3, h4, h5, h6]
theorem le_anti {x y : Nu} (h1 : PySem.W.dataLe false id x.d y.d = true) (h2 : PySem.W.dataLe false id y.d x.d = true) : x.d = y.d := by
  have e1 : (!(PyProof.Rows.listOrd PyProof.Rows.itemOrd).blt (PySem.W.keyToks y.d) (PySem.W.keyToks x.d)) = true := h1
  have e2 : (!(PyProof.Rows.listOrd PyProof.Rows.itemOrd).blt (PySem.W.keyToks x.d) (PySem.W.keyToks y.d)) = true := h2
  rw [Bool.not_eq_true'] at e1 e2
  exact toks_inj ((PyProof.Rows.listOrd PyProof.Rows.itemOrd).total _ _ e2 e1)
theorem sort_same {xs ys : List Nu} (h : ys.Perm xs) : (ys.map Nu.d).mergeSort (PySem.W.dataLe false id) = (xs.map Nu.d).mergeSort (PySem.W.dataLe false id) := by
  have ht : PySem.W.TotalLe (PySem.W.dataLe false (id : D → D)) := PySem.W.sortLe_total _ false _
  refine List.Perm.eq_of_pairwise (le := fun a b => PySem.W.dataLe false id a b = true) (fun a b ha hb h1 h2 => ?_) (PySem.W.sort_pairwise ht _) (PySem.W.sort_pairwise ht _) ?_
  · rw [List.mem_mergeSort, List.mem_map] at ha hb
    obtain ⟨x, _, rfl⟩ := ha
    obtain ⟨y, _, rfl⟩ := hb
    exact le_anti h1 h2
  · exact (List.mergeSort_perm _ _).trans ((h.map _).trans (List.mergeSort_perm _ _).symm)
theorem okS_nu (xs : List Nu) (hl : xs.length ≤ 1000) : okS (xs.map Nu.d) := by
  refine ⟨?_, ?_, ?_, by rw [List.length_map]; omega, ?_⟩
  · intro d hd d' hd'
    obtain ⟨x, _, rfl⟩ := List.mem_map.mp hd
    obtain ⟨y, _, rfl⟩ := List.mem_map.mp hd'
    rfl
  · intro d hd
    obtain ⟨x, _, rfl⟩ := List.mem_map.mp hd
    exact ⟨_, _, rfl⟩
  · intro d hd
    obtain ⟨x, _, rfl⟩ := List.mem_map.mp hd
    show PyData.depth (nrm x.a x.b x.C) ≤ 60
    exact Nat.le_of_ble_eq_true rfl
  · clear hl
    induction xs with
    | nil => rfl
    | cons x xs ih => exact ih
end

section
variable {Q : D → Prop}
theorem w_sortedL {ds : List D} (h : okS ds) (q : Q (.list (ds.mergeSort (PySem.W.dataLe false id)))) : fSorted [.list ds] Q := ⟨h, q⟩
theorem w_sortedT {ds : List D} (h : okS ds) (q : Q (.list (ds.mergeSort (PySem.W.dataLe false id)))) : fSorted [.tuple ds] Q := ⟨h, q⟩
/-- lists of numbers are what == takes -/
theorem okD_list {ds : List D} (h : ∀ d ∈ ds, okD d ∧ d.depth ≤ 60) : okD (.list ds) := by
  have k : flatD.flatA ds = true ∧ PyData.canLayAll0 ds = true ∧ PyData.depthAll ds ≤ 60 := by
    induction ds with
    | nil => exact ⟨rfl, rfl, Nat.zero_le _⟩
    | cons d ds ih =>
      obtain ⟨i1, i2, i3⟩ := ih fun x hx => h x (List.mem_cons_of_mem _ hx)
      obtain ⟨⟨f, g⟩, e⟩ := h d List.mem_cons_self
      refine ⟨?_, ?_, ?_⟩
      · show (flatD d && flatD.flatA ds) = true
        rw [f, i1]; rfl
      · show (d.canLay0 && PyData.canLayAll0 ds) = true
        rw [SeqAt.canLay_of_shaped g, i2]; rfl
      · show max d.depth (PyData.depthAll ds) ≤ 60
        omega
  refine ⟨k.1, ?_⟩
  show (PyData.canLayAll0 ds && decide (PyData.depthAll ds + 1 ≤ 64)) = true
  rw [k.2.1, decide_eq_true (by omega)]; rfl
theorem okD_nu (x : Nu) : okD x.d ∧ x.d.depth ≤ 60 := ⟨⟨rfl, rfl⟩, Nat.le_of_ble_eq_true rfl⟩
theorem okD_nus (xs : List Nu) : okD (.list (xs.map Nu.d)) := okD_list fun d hd => by
  obtain ⟨x, _, rfl⟩ := List.mem_map.mp hd
  exact okD_nu x
theorem okD_sorted (xs : List Nu) : okD (.list ((xs.map Nu.d).mergeSort (PySem.W.dataLe false id))) := okD_list fun d hd => by
  rw [List.mem_mergeSort] at hd
  obtain ⟨x, _, rfl⟩ := List.mem_map.mp hd
  exact okD_nu x
theorem eqv_list {ds : List D} (h : ∀ d ∈ ds, PyData.eqv d d = true) : PyData.eqv (.list ds) (.list ds) = true := by
  show PyData.eqvAll ds ds = true
  induction ds with
  | nil => rfl
  | cons d ds ih =>
    show (PyData.eqv d d && PyData.eqvAll ds ds) = true
    rw [h d List.mem_cons_self, ih fun x hx => h x (List.mem_cons_of_mem _ hx)]; rfl
theorem eqv_rt (a b c : Rat) : PyData.eqv (rt a b c) (rt a b c) = true := by
  show (PyData.eqv (dr a) (dr a) && (PyData.eqv (dr b) (dr b) && (PyData.eqv (dr c) (dr c) && true))) = true
  rw [eqv_dr, eqv_dr, eqv_dr, decide_eq_true rfl, decide_eq_true rfl, decide_eq_true rfl]; rfl
theorem eqv_sorted (xs : List Nu) : PyData.eqv (.list ((xs.map Nu.d).mergeSort (PySem.W.dataLe false id))) (.list ((xs.map Nu.d).mergeSort (PySem.W.dataLe false id))) = true := eqv_list fun d hd => by
  rw [List.mem_mergeSort] at hd
  obtain ⟨x, _, rfl⟩ := List.mem_map.mp hd
  exact eqv_rt _ _ _
theorem atI_nu {zs : List Nu} {k : Nat} {i : Int} (hi : i = (k : Int)) (hk : k < zs.length) : atI (zs.map Nu.d) i = some (zs[k]).d := by
  subst hi
  have e : ixN (zs.map Nu.d).length ((k : Nat) : Int) = some k := by
    unfold ixN
    rw [if_pos (by omega), if_pos (by rw [List.length_map]; omega), Int.toNat_natCast]
  unfold atI
  rw [e]
  show (zs.map Nu.d)[k]? = _
  rw [List.getElem?_map, List.getElem?_eq_getElem hk]
  rfl
def kCnt (ns : List Int) (Q : D → Prop) : List D → Prop
  | [.int i] => Q (.int (ns.count i : Nat))
  | _ => False
theorem w_kCnt {ns : List Int} {i : Int} (q : Q (.int (ns.count i : Nat))) : kCnt ns Q [.int i] := q
theorem w_count {t : En → M (List D)} {ρ : En} {i : Nat} {xs : List D} {ns : List Int} (h : ρ[i]? = some (.va (.list xs))) (hn : intsOf xs = some ns) (q : t ρ (kCnt ns Q)) : eCount (eVar i) t ρ Q := by
  unfold eCount eVar
  rw [h]
  dsimp only
  rw [hn]
  refine cast ?_ q
  congr 1
theorem intsOf_map : ∀ ns : List Int, intsOf (ns.map PyData.int) = some ns
  | [] => rfl
  | n :: ns => by
    show (intsOf (ns.map PyData.int)).map (n :: ·) = _
    rw [intsOf_map ns]; rfl
noncomputable def sides (one : Nu) (xs : List Nu) : List Int := xs.map fun y => sr (y.v - one.v)
theorem rank_loop {s0 s2 : Sl} (one : Nu) {QL : List D → Prop} : ∀ (ys : List Nu) (acc : List Int) (s3 : Sl), QL ((acc ++ sides one ys).map PyData.int) →
    lcW (mgName 3) mYes (eCallN 2 F_compare (aCons (eVar 3) (aCons (eVar 1) aNil))) [s0, .va one.d, s2, s3] (ys.map Nu.d) (acc.map PyData.int) QL
  | [], acc, s3, h => by
    refine w_lcN ?_
    unfold sides at h
    rw [List.map_nil, List.append_nil] at h
    exact h
  | y :: ys, acc, s3, h => by
    rw [List.map_cons]
    refine w_lcC ?_
    placed_of0
    refine nu_compare y one ?_
    have := rank_loop (s0 := s0) (s2 := s2) one (QL := QL) ys (acc ++ [sr (y.v - one.v)]) s3 (by unfold sides at *; rw [List.append_assoc]; exact h)
    rw [List.map_append] at this
    exact this
theorem rank_ok {one : Nu} {xs : List Nu} (hl : xs.length < 1000) (h : Q (.tuple [.int ((sides one xs).count (-1) : Nat), .int ((sides one xs).count 0 : Nat)])) : F_rank_of [.list (xs.map Nu.d), one.d] Q := by
  unfold F_rank_of
  placed_of0
  refine w_and (by rw [List.length_map]; omega) ?_
  refine rank_loop one xs [] _ ?_
  rw [List.nil_append]
  placed_of0
  refine w_count rfl (intsOf_map _) ?_
  placed_of0
  refine w_kCnt ?_
  placed_of0
  refine w_count rfl (intsOf_map _) ?_
  placed_of0
  refine w_kCnt ?_
  placed_of0
  exact h
def ones (n : Nat) : List D := List.replicate n (.int 1)
theorem ones_add (n : Nat) : ones (n + 1) = ones n ++ [.int 1] := List.replicate_succ'
theorem less_loop {s0 s1 s2 s3 s4 s5 s6 s7 s8 s9 : Sl} {QL : List D → Prop} : ∀ (ns : List Int) (k : Nat) (s10 : Sl), QL (ones (k + ns.countP fun i => decide (i < 0))) →
    lcW (mgName 10) (eT (eOp fLt (eVar 10) (eC (.int 0)))) (eC (.int 1)) [s0, s1, s2, s3, s4, s5, s6, s7, s8, s9, s10] (ns.map PyData.int) (ones k) QL
  | [], k, s10, h => h
  | i :: ns, k, s10, h => by
    rw [List.map_cons]
    refine w_lcC ?_
    placed_of0
    by_cases e : i < 0
    · rw [decide_eq_true e]
      placed_of0
      rw [← ones_add]
      refine less_loop ns (k + 1) _ ?_
      rw [List.countP_cons_of_pos (by rw [decide_eq_true e])] at h
      rw [show k + 1 + _ = k + (_ + 1) from by rw [Nat.add_assoc, Nat.add_comm 1]]
      exact h
    · rw [decide_eq_false e]
      placed_of0
      refine less_loop ns k _ ?_
      rw [List.countP_cons_of_neg (by rw [decide_eq_false e]; decide)] at h
      exact h
theorem same_loop {s0 s1 s2 s3 s4 s5 s6 s7 s8 s9 : Sl} {QL : List D → Prop} : ∀ (ns : List Int) (k : Nat) (s10 : Sl), QL (ones (k + ns.countP fun i => decide (i = 0))) →
    lcW (mgName 10) (eT (eOp fEq (eVar 10) (eC (.int 0)))) (eC (.int 1)) [s0, s1, s2, s3, s4, s5, s6, s7, s8, s9, s10] (ns.map PyData.int) (ones k) QL
  | [], k, s10, h => h
  | i :: ns, k, s10, h => by
    rw [List.map_cons]
    refine w_lcC ?_
    placed_of0
    rw [eqv_int]
    by_cases e : i = 0
    · rw [decide_eq_true e]
      placed_of0
      rw [← ones_add]
      refine same_loop ns (k + 1) _ ?_
      rw [List.countP_cons_of_pos (by rw [decide_eq_true e])] at h
      rw [show k + 1 + _ = k + (_ + 1) from by rw [Nat.add_assoc, Nat.add_comm 1]]
      exact h
    · rw [decide_eq_false e]
      placed_of0
      refine same_loop ns k _ ?_
      rw [List.countP_cons_of_neg (by rw [decide_eq_false e]; decide)] at h
      exact h
noncomputable def eqs (z : Nu) (xs : List Nu) : List Nu := xs.filter fun y => decide (sr (y.v - z.v) = 0)
theorem eqs_head {pre post : List Nu} {m z : Nu} (h1 : ∀ y ∈ pre, m.v ≠ y.v) (h2 : z.v = m.v) : ∃ r, eqs z (pre ++ m :: post) = m :: r := by
  unfold eqs
  rw [List.filter_append, List.filter_cons_of_pos (p := fun y : Nu => decide (sr (y.v - z.v) = 0)) (decide_eq_true (by rw [h2, show m.v - m.v = 0 by grind, sr_zero])), filter_all]
  · exact ⟨_, rfl⟩
  · intro y hy
    refine decide_eq_false fun e => ?_
    rcases sr_cases (y.v - z.v) with ⟨e1, _⟩ | ⟨_, e2⟩ | ⟨e1, _⟩
    · omega
    · exact h1 y hy (by rw [h2] at e2; grind)
    · omega
theorem count_m1 : ∀ (xs : List Nu) (one : Nu), (sides one xs).count (-1) = (sides one xs).countP fun i => decide (i < 0) := by
  intro xs one
  unfold sides List.count
  rw [List.countP_map, List.countP_map]
  refine List.countP_congr fun y _ => ?_
  show ((sr (y.v - one.v) == -1) = true) ↔ (decide (sr (y.v - one.v) < 0) = true)
  rw [beq_iff_eq, decide_eq_true_iff]
  rcases sr_cases (y.v - one.v) with ⟨e, _⟩ | ⟨e, _⟩ | ⟨e, _⟩ <;> rw [e] <;> decide
theorem count_0 : ∀ (xs : List Nu) (one : Nu), (sides one xs).count 0 = (sides one xs).countP fun i => decide (i = 0) := by
  intro xs one
  unfold sides List.count
  rw [List.countP_map, List.countP_map]
  refine List.countP_congr fun y _ => ?_
  show ((sr (y.v - one.v) == 0) = true) ↔ (decide (sr (y.v - one.v) = 0) = true)
  rw [beq_iff_eq, decide_eq_true_iff]
theorem len_ones (n : Nat) : (ones n).length = n := List.length_replicate
/-- the first of zs (in order) is as small as the least found -/
theorem first_least {x : Nu} {xs zs : List Nu} {z : Nu} (hz : Up zs) (hp : zs.Perm (x :: xs)) (h0 : zs[0]? = some z) : ∃ r, eqs z (x :: xs) = lst 1 x xs :: r := by
  obtain ⟨p, q, e, h1, h2⟩ := lst_spec 1 (.inl rfl) xs [] [] x (fun _ h => by simp at h) (fun _ h => by simp at h)
  rw [List.nil_append, List.nil_append] at e
  generalize lst 1 x xs = m at *
  rw [e]
  have hm : m ∈ zs := hp.mem_iff.mpr (by rw [e]; simp)
  have hall : ∀ y ∈ x :: xs, m.v ≤ y.v := fun y hy => by
    rw [e, List.mem_append, List.mem_cons] at hy
    rcases hy with hy | rfl | hy
    · have := h1 y hy
      rw [Int.one_mul, sr_lt] at this
      grind
    · grind
    · have := h2 y hy
      rw [Int.one_mul, sr_le] at this
      grind
  have hzm : z ∈ x :: xs := hp.mem_iff.mp (List.mem_of_getElem? h0)
  refine eqs_head (fun y hy => ?_) ?_
  · have := h1 y hy
    rw [Int.one_mul, sr_lt] at this
    intro z
    rw [z] at this
    grind
  · have a1 := hall z hzm
    have a2 : z.v ≤ m.v := by
      cases zs with
      | nil => simp at hm
      | cons w ws =>
        rw [List.getElem?_cons_zero] at h0
        cases h0
        rcases List.mem_cons.mp hm with rfl | hm
        · grind
        · exact (List.pairwise_cons.mp hz).1 m hm
    grind
theorem last_most {x : Nu} {xs zs : List Nu} {z : Nu} (hz : Up zs) (hp : zs.Perm (x :: xs)) (h0 : zs.getLast? = some z) : ∃ r, eqs z (x :: xs) = lst (-1) x xs :: r := by
  obtain ⟨p, q, e, h1, h2⟩ := lst_spec (-1) (.inr rfl) xs [] [] x (fun _ h => by simp at h) (fun _ h => by simp at h)
  rw [List.nil_append, List.nil_append] at e
  generalize lst (-1) x xs = m at *
  rw [e]
  have hm : m ∈ zs := hp.mem_iff.mpr (by rw [e]; simp)
  have k1 : ∀ {a b : Nu}, -1 * sr (a.v - b.v) < 0 → b.v < a.v := fun {a b} h => by
    have h' : 0 < sr (a.v - b.v) := by omega
    rw [sr_gt] at h'
    grind
  have k2 : ∀ {a b : Nu}, -1 * sr (a.v - b.v) ≤ 0 → b.v ≤ a.v := fun {a b} h => by
    have h' : ¬ sr (a.v - b.v) < 0 := by omega
    rw [sr_lt] at h'
    grind
  have hall : ∀ y ∈ x :: xs, y.v ≤ m.v := fun y hy => by
    rw [e, List.mem_append, List.mem_cons] at hy
    rcases hy with hy | rfl | hy
    · have := k1 (h1 y hy)
      grind
    · grind
    · exact k2 (h2 y hy)
  have hzm : z ∈ x :: xs := hp.mem_iff.mp (List.mem_of_getLast? h0)
  refine eqs_head (fun y hy => ?_) ?_
  · have := k1 (h1 y hy)
    intro z
    rw [z] at this
    grind
  · have a1 := hall z hzm
    have a2 : m.v ≤ z.v := by
      obtain ⟨ws, rfl⟩ := List.getLast?_eq_some_iff.mp h0
      rcases List.mem_append.mp hm with hm | hm
      · exact (List.pairwise_append.mp hz).2.2 m hm z (by simp)
      · rw [List.mem_singleton] at hm
        subst hm
        grind
    grind
end

section
variable {Q : D → Prop}
theorem num_no {d : D} {a : String} (h : tyD d = some a) (hn : isD a "int" = false ∨ isD a "bool" = true) (q : Q (.bool false)) : F_is_number [d] Q := by
  unfold F_is_number
  placed_of0
  refine w_isi h ?_
  cases e : isD a "int" with
  | false => placed_of0; exact q
  | true =>
    placed_of0
    refine w_isi h ?_
    rcases hn with hn | hn
    · rw [e] at hn; cases hn
    · rw [hn]
      placed_of0
      exact q
theorem bf_none (q : Q (.bool false)) : F_is_fraction [.none] Q := by unfold F_is_fraction; placed_of0; exact q
theorem bf_10 (q : Q (.bool false)) : F_is_fraction [.tuple [.int 1, .int 0]] Q := by
  unfold F_is_fraction; placed_of0; refine sp_is_number _ ?_; placed_of0; refine sp_is_number _ ?_; placed_of0; exact q
theorem bf_24 (q : Q (.bool false)) : F_is_fraction [.tuple [.int 2, .int 4]] Q := by
  unfold F_is_fraction; placed_of0; refine sp_is_number _ ?_; placed_of0; refine sp_is_number _ ?_; placed_of0; refine sp_common ?_; placed_of0; exact q
theorem bf_1m (q : Q (.bool false)) : F_is_fraction [.tuple [.int 1, .int (-1)]] Q := by
  unfold F_is_fraction; placed_of0; refine sp_is_number _ ?_; placed_of0; refine sp_is_number _ ?_; placed_of0; exact q
theorem bf_t1 (q : Q (.bool false)) : F_is_fraction [.tuple [.bool true, .int 1]] Q := by
  unfold F_is_fraction; placed_of0; refine num_no rfl (.inr rfl) ?_; placed_of0; exact q
theorem bf_111 (q : Q (.bool false)) : F_is_fraction [.tuple [.int 1, .int 1, .int 1]] Q := by
  unfold F_is_fraction; placed_of0; exact q
theorem bf_l11 (q : Q (.bool false)) : F_is_fraction [.list [.int 1, .int 1]] Q := by
  unfold F_is_fraction; placed_of0; exact q
theorem bf_s1 (q : Q (.bool false)) : F_is_fraction [.tuple [.str (Str.ofString "1"), .int 1]] Q := by
  unfold F_is_fraction; placed_of0; refine num_no rfl (.inl rfl) ?_; placed_of0; exact q
theorem bf_tt (q : Q (.bool false)) : F_is_fraction [.tuple [.tuple [.int 1, .int 1], .tuple [.int 1, .int 1]]] Q := by
  unfold F_is_fraction; placed_of0; refine num_no rfl (.inl rfl) ?_; placed_of0; exact q
theorem bf_0 (q : Q (.bool false)) : F_is_fraction [.int 0] Q := by unfold F_is_fraction; placed_of0; exact q
theorem fr (i j : Int) (hj : 1 ≤ j) (hg : Int.gcd i j = 1) (h : Q (.bool true)) : F_is_fraction [.tuple [.int i, .int j]] Q := by
  unfold F_is_fraction; placed_of0; refine sp_is_number _ ?_; placed_of0; refine sp_is_number _ ?_; placed_of0
  rw [decide_eq_true hj]
  placed_of0
  refine sp_common ?_
  rw [hg]
  placed_of0
  exact h
theorem br_none (q : Q (.bool false)) : F_is_root [.none] Q := by unfold F_is_root; placed_of0; exact q
theorem br_2 {d e : D} (q : Q (.bool false)) : F_is_root [.tuple [d, e]] Q := by unfold F_is_root; placed_of0; exact q
theorem br_l {ds : List D} (q : Q (.bool false)) : F_is_root [.list ds] Q := by unfold F_is_root; placed_of0; exact q
theorem br_a (q : Q (.bool false)) : F_is_root [.tuple [.tuple [.int 1, .int 1], .tuple [.int 0, .int 1], .tuple [.int 2, .int 1]]] Q := by
  unfold F_is_root; placed_of0; refine fr _ _ (by decide) (by decide) ?_; placed_of0; refine fr _ _ (by decide) (by decide) ?_; placed_of0; refine fr _ _ (by decide) (by decide) ?_; placed_of0; exact q
theorem br_b (q : Q (.bool false)) : F_is_root [.tuple [.tuple [.int 1, .int 1], .tuple [.int 1, .int 1], .tuple [.int 0, .int 1]]] Q := by
  unfold F_is_root; placed_of0; refine fr _ _ (by decide) (by decide) ?_; placed_of0; refine fr _ _ (by decide) (by decide) ?_; placed_of0; refine fr _ _ (by decide) (by decide) ?_; placed_of0; exact q
theorem br_c (q : Q (.bool false)) : F_is_root [.tuple [.tuple [.int 1, .int 1], .tuple [.int 1, .int 1], .tuple [.int (-2), .int 1]]] Q := by
  unfold F_is_root; placed_of0; refine fr _ _ (by decide) (by decide) ?_; placed_of0; refine fr _ _ (by decide) (by decide) ?_; placed_of0; refine fr _ _ (by decide) (by decide) ?_; placed_of0; exact q
theorem br_d (q : Q (.bool false)) : F_is_root [.tuple [.tuple [.int 1, .int 1], .tuple [.int 0, .int 1], .int 0]] Q := by
  unfold F_is_root; placed_of0; refine fr _ _ (by decide) (by decide) ?_; placed_of0; refine fr _ _ (by decide) (by decide) ?_; placed_of0; refine bf_0 ?_; placed_of0; exact q
/-! ### the draws -/
local macro_rules | `(tactic| pv_isi_meta) => `(tactic| (show (_ : Int) ≠ 0; decide))
theorem w_ixD {ns : List Int} {x : Int} {d : D} (h : atI (ns.map PyData.int) x = some d) (q : Q d) : fIx (scr ns) (.int x) Q := by
  show (match atI (ns.map PyData.int) x with | some d => Q d | none => False)
  rw [h]; exact q
theorem w_lenD {ns : List Int} (q : Q (.int ns.length)) : fLen [scr ns] Q := by
  show Q (.int ((ns.map PyData.int).length : Nat))
  rw [List.length_map]; exact q
theorem atI_rng {ns : List Int} {k : Nat} (h : k < ns.length) : atI (ns.map PyData.int) (0 + (k : Int)) = some (.int (ns[k])) := by
  have e : ixN (ns.map PyData.int).length (0 + (k : Int)) = some k := by
    unfold ixN
    rw [if_pos (by omega), if_pos (by rw [List.length_map]; omega), Int.zero_add, Int.toNat_natCast]
  unfold atI
  rw [e]
  show (ns.map PyData.int)[k]? = _
  rw [List.getElem?_map, List.getElem?_eq_getElem h]
  rfl
theorem digits_loop {s0 s1 s3 s4 s5 : Sl} {P : Po} : ∀ (ds : List D) (ms : List Int) (r : Int) (s7 : Sl), ms.length + ds.length < 90000 → (∀ (ms' : List Int) (r : Int) (s7 : Sl), ms'.length ≤ ms.length + ds.length → P.nx [s0, s1, .ow (ms'.map PyData.int), s3, s4, s5, .va (.int r), s7]) →
    forW (mgName 7) (sIf (eT (eOp fGt (eVar 6) (eC (.int 0)))) (sSeq (sApp 2 (aCons (eOp fMod (eCall fInt (aCons (eVar 6) aNil)) (eC (.int 997))) aNil)) (sAsg (eOp fDiv (eVar 6) (eC (.int 997))) (mgName 6))) sNext) ds [s0, s1, .ow (ms.map PyData.int), s3, s4, s5, .va (.int r), s7] P
  | [], ms, r, s7, hl, h => by
    obtain ⟨nx, rt, bk, ct⟩ := P
    exact h ms r s7 (by rw [List.length_nil]; omega)
  | d :: ds, ms, r, s7, hl, h => by
    obtain ⟨nx, rt, bk, ct⟩ := P
    rw [List.length_cons] at hl
    placed_of0
    by_cases e : 0 < r
    · rw [decide_eq_true e]
      placed_of0
      refine w_kApp (by rw [List.length_map]; omega) (show _ = [s0, s1, .ow ((ms ++ [r.fmod 997]).map PyData.int), s3, s4, s5, .va (.int r), .va d] by rw [List.map_append]; rfl) ?_
      placed_of0
      · exact ⟨by decide, by decide⟩
      placed_of0
      exact digits_loop ds (ms ++ [r.fmod 997]) _ _ (by rw [List.length_append, List.length_singleton]; omega) fun ms' r s7 h' => h ms' r s7 (by rw [List.length_append, List.length_singleton] at h'; rw [List.length_cons]; omega)
    · rw [decide_eq_false e]
      placed_of0
      exact digits_loop ds ms r _ (by omega) fun ms' r s7 h' => h ms' r s7 (by rw [List.length_cons]; omega)
def drawBody : MS := (sSeq (sAsg (eCall fAbs (aCons (eCall fInt (aCons (eOp fIx (eVar 0) (eVar 4)) aNil)) aNil)) (mgName 5)) (sSeq (sAsg (eOp fMod (eCall fInt (aCons (eOp fAdd (eOp fAdd (eOp fMul (eVar 3) (eC (.int 48271))) (eOp fMod (eVar 5) (eC (.int 1000003)))) (eVar 4)) aNil)) (eC (.int 65537))) (mgName 3)) (sSeq (sAsg (eC (.int 0)) (mgName 6)) (sSeq (sIf (eT (eOp fGe (eVar 5) (eOp fPow (eC (.int 10)) (eC (.int 18))))) (sAsg (eVar 5) (mgName 6)) (sSeq (sApp 2 (aCons (eOp fMod (eCall fInt (aCons (eVar 5) aNil)) (eC (.int 997))) aNil)) (sApp 2 (aCons (eOp fMod (eOp fMod (eCall fInt (aCons (eOp fAdd (eOp fMul (eVar 3) (eC (.int 69621))) (eC (.int 5))) aNil)) (eC (.int 65521))) (eC (.int 997))) aNil)))) (sFor (itR1 (aCons (eC (.int 60)) aNil)) (mgName 7) (sIf (eT (eOp fGt (eVar 6) (eC (.int 0)))) (sSeq (sApp 2 (aCons (eOp fMod (eCall fInt (aCons (eVar 6) aNil)) (eC (.int 997))) aNil)) (sAsg (eOp fDiv (eVar 6) (eC (.int 997))) (mgName 6))) sNext))))))
theorem fmod_bd (x : Int) {y : Int} (hy : 0 < y) : 0 ≤ x.fmod y ∧ x.fmod y < y := by
  refine ⟨?_, Int.fmod_lt_of_pos _ hy⟩
  rw [Int.fmod_eq_emod_of_nonneg _ (by omega)]
  exact Int.emod_nonneg _ (by omega)
theorem draw_loop {ns : List Int} {s1 : Sl} {P : Po} : ∀ (n k : Nat) (ms : List Int) (mx : Int) (s4 s5 s6 s7 : Sl), k + n = ns.length → ms.length + 62 * n < 80000 → 0 ≤ mx → mx < 65537 →
    (∀ (ms' : List Int) (mx : Int) (s4 s5 s6 s7 : Sl), ms'.length ≤ ms.length + 62 * n → 0 ≤ mx → mx < 65537 → P.nx [.va (scr ns), s1, .ow (ms'.map PyData.int), .va (.int mx), s4, s5, s6, s7]) →
    forW (mgName 4) drawBody ((List.range' k n).map fun i : Nat => PyData.int (0 + (i : Int))) [.va (scr ns), s1, .ow (ms.map PyData.int), .va (.int mx), s4, s5, s6, s7] P
  | 0, k, ms, mx, s4, s5, s6, s7, hk, hl, m0, m1, h => by
    obtain ⟨nx, rt, bk, ct⟩ := P
    exact h ms mx s4 s5 s6 s7 (by omega) m0 m1
  | n + 1, k, ms, mx, s4, s5, s6, s7, hk, hl, m0, m1, h => by
    obtain ⟨nx, rt, bk, ct⟩ := P
    rw [List.range'_succ, List.map_cons]
    refine w_forC ?_
    tb_rel
    unfold drawBody
    tb_rel
    kfm_turns
    refine w_ixD (atI_rng (k := k) (by omega)) ?_
    placed_of0
    · exact cmul (k := 17) (l := 17) (sm_of (by simp; omega) (by simp; omega)) (sm_of (by decide) (by decide)) (by decide)
    placed_of0
    · exact ⟨by decide, by decide, by decide⟩
    tb_rel
    tb_rel
    have hm := fmod_bd (mx * 48271 + (if ns[k] < 0 then -ns[k] else ns[k]).fmod 1000003 + (0 + (k : Int))) (y := 65537) (by decide)
    generalize (mx * 48271 + (if ns[k] < 0 then -ns[k] else ns[k]).fmod 1000003 + (0 + (k : Int))).fmod 65537 = mx' at *
    generalize (if ns[k] < 0 then -ns[k] else ns[k]) = c at *
    by_cases e : (10 : Int) ^ (18 : Int).toNat ≤ c
    · rw [decide_eq_true e]
      placed_of0
      refine digits_loop _ ms _ _ (by unfold rngD; simp; omega) fun ms' r s7 h' => ?_
      placed_of0
      refine draw_loop n (k + 1) ms' _ _ _ _ _ (by omega) ?_ hm.1 hm.2 fun ms2 mx2 s4 s5 s6 s7 h2 => h ms2 mx2 s4 s5 s6 s7 ?_
      all_goals (unfold rngD at h'; simp at h'; omega)
    · rw [decide_eq_false e]
      placed_of0
      refine w_kApp (by rw [List.length_map]; omega) (show _ = [.va (scr ns), s1, .ow ((ms ++ [c.fmod 997]).map PyData.int), .va (.int mx'), .va (.int (0 + (k : Int))), .va (.int c), .va (.int 0), s7] by rw [List.map_append]; rfl) ?_
      placed_of0
      · exact cmul (k := 17) (l := 17) (sm_of (by simp; omega) (by simp; omega)) (sm_of (by decide) (by decide)) (by decide)
      placed_of0
      refine w_kApp (by rw [List.length_map, List.length_append, List.length_singleton]; omega) (show _ = [.va (scr ns), s1, .ow ((ms ++ [c.fmod 997] ++ [((mx' * 69621 + 5).fmod 65521).fmod 997]).map PyData.int), .va (.int mx'), .va (.int (0 + (k : Int))), .va (.int c), .va (.int 0), s7] by rw [List.map_append, List.map_append, List.map_append]; rfl) ?_
      placed_of0
      refine digits_loop _ (ms ++ [c.fmod 997] ++ [((mx' * 69621 + 5).fmod 65521).fmod 997]) _ _ (by unfold rngD; simp; omega) fun ms' r s7 h' => ?_
      placed_of0
      refine draw_loop n (k + 1) ms' _ _ _ _ _ (by omega) ?_ hm.1 hm.2 fun ms2 mx2 s4 s5 s6 s7 h2 => h ms2 mx2 s4 s5 s6 s7 ?_
      all_goals (unfold rngD at h'; simp at h'; omega)
def moreBody : MS := (sSeq (sAsg (eOp fMod (eCall fInt (aCons (eOp fAdd (eOp fAdd (eOp fMul (eVar 3) (eC (.int 16807))) (eVar 4)) (eC (.int 1))) aNil)) (eC (.int 65537))) (mgName 3)) (sApp 2 (aCons (eOp fMod (eCall fInt (aCons (eVar 3) aNil)) (eC (.int 997))) aNil)))
theorem more_loop {s0 s1 s5 s6 s7 : Sl} {P : Po} : ∀ (ks : List Int) (ms : List Int) (mx : Int) (s4 : Sl), ms.length + ks.length < 90000 → 0 ≤ mx → mx < 65537 →
    (∀ (ms' : List Int) (mx : Int) (s4 : Sl), ms'.length ≤ ms.length + ks.length → P.nx [s0, s1, .ow (ms'.map PyData.int), .va (.int mx), s4, s5, s6, s7]) →
    forW (mgName 4) moreBody (ks.map PyData.int) [s0, s1, .ow (ms.map PyData.int), .va (.int mx), s4, s5, s6, s7] P
  | [], ms, mx, s4, hl, m0, m1, h => by
    obtain ⟨nx, rt, bk, ct⟩ := P
    exact h ms mx s4 (by simp)
  | k :: ks, ms, mx, s4, hl, m0, m1, h => by
    obtain ⟨nx, rt, bk, ct⟩ := P
    rw [List.length_cons] at hl
    rw [List.map_cons]
    refine w_forC ?_
    tb_rel
    unfold moreBody
    placed_of0
    · exact cmul (k := 17) (l := 17) (sm_of (by simp; omega) (by simp; omega)) (sm_of (by decide) (by decide)) (by decide)
    placed_of0
    have hm := fmod_bd (mx * 16807 + k + 1) (y := 65537) (by decide)
    refine w_kApp (by rw [List.length_map]; omega) (show _ = [s0, s1, .ow ((ms ++ [((mx * 16807 + k + 1).fmod 65537).fmod 997]).map PyData.int), .va (.int ((mx * 16807 + k + 1).fmod 65537)), .va (.int k), s5, s6, s7] by rw [List.map_append]; rfl) ?_
    placed_of0
    exact more_loop ks (ms ++ [((mx * 16807 + k + 1).fmod 65537).fmod 997]) _ _ (by rw [List.length_append, List.length_singleton]; omega) hm.1 hm.2 fun ms' mx s4 h' => h ms' mx s4 (by rw [List.length_append, List.length_singleton] at h'; rw [List.length_cons]; omega)
theorem cutD_ints {ms : List Int} {n : Int} : ∃ ms' : List Int, cutD (ms.map PyData.int) none (some n) = ms'.map PyData.int ∧ ms'.length ≤ ms.length := by
  unfold cutD
  generalize HT.sIx (ms.map PyData.int).length (ms.map PyData.int).length (some n) - HT.sIx (ms.map PyData.int).length 0 none = a
  generalize HT.sIx (ms.map PyData.int).length 0 none = b
  exact ⟨(ms.drop b).take a, by rw [List.map_take, List.map_drop], by rw [List.length_take, List.length_drop]; omega⟩
theorem draws_ok {ns : List Int} {many : Int} (hn : ns.length ≤ 63) (h0 : 0 ≤ many) (h1 : many ≤ 2000) (h : ∀ ms : List Int, ms.length ≤ 80000 → Q (.list (ms.map PyData.int))) : F__law_draws [scr ns, .int many] Q := by
  unfold F__law_draws
  placed_of0
  refine w_lenD ?_
  placed_of0
  refine w_kR1 (by omega) (by omega) ?_
  rw [rngD_range']
  refine draw_loop (ns := ns) ns.length 0 [] 7 _ _ _ _ (by omega) (by simp; omega) (by decide) (by decide) fun ms mx s4 s5 s6 s7 hl m0 m1 => ?_
  rw [List.length_nil] at hl
  placed_of0
  refine w_kR1 (by omega) (by omega) ?_
  rw [show rngD 0 many.toNat = ((List.range many.toNat).map fun i : Nat => (0 : Int) + (i : Int)).map PyData.int by unfold rngD; rw [List.map_map]; rfl]
  refine more_loop _ ms mx _ (by rw [List.length_map, List.length_range]; omega) m0 m1 fun ms' mx' s4 h' => ?_
  rw [List.length_map, List.length_range] at h'
  placed_of0
  obtain ⟨ms2, e2, l2⟩ := cutD_ints (ms := ms') (n := many)
  rw [e2]
  exact h ms2 (by omega)
theorem hd_law : ∀ ns : List Int, ns.length ≤ 63 → D_law (env0 4 [scr ns]) IsDraws := by
  intro ns hn
  rw [show env0 4 [scr ns] = [.va (scr ns), .no, .no, .no] from rfl]
  unfold D_law
  placed_of0
  exact draws_ok hn (by decide) (by decide) fun ms hm => ⟨ms, rfl, by omega⟩
end
local macro_rules | `(tactic| pv_isi_meta) => `(tactic| (show (_ : Int) ≠ 0; decide))


/-! ### draws, points, lines (k08) -/
abbrev pt (x y : Rat) : D := .tuple [dr x, dr y]
abbrev ln (a b c : Rat) : D := .tuple [.int 0, dr a, dr b, dr c]
abbrev ci (a b c : Rat) : D := .tuple [.int 1, dr a, dr b, dr c]
local macro_rules | `(tactic| dl_puts) => `(tactic| first | exact bz_mono (by with_reducible assumption) (by omega) | fail)
theorem lit31 : PyData.tuple [.int 3, .int 1] = dr 3 := rfl
theorem litm21 : PyData.tuple [.int (-2), .int 1] = dr (-2) := rfl
theorem lit13 : PyData.tuple [.int 1, .int 3] = dr (1 / 3) := by
  unfold dr
  rw [show (1 / 3 : Rat).num = 1 by decide +kernel, show (1 / 3 : Rat).den = 3 by decide +kernel]
  rfl
theorem lit14 : PyData.tuple [.int 1, .int 4] = dr (1 / 4) := by
  unfold dr
  rw [show (1 / 4 : Rat).num = 1 by decide +kernel, show (1 / 4 : Rat).den = 4 by decide +kernel]
  rfl
theorem bz_3 : bz 2 3 := ⟨by unfold sm; decide, by decide⟩
theorem bz_m2 : bz 2 (-2) := ⟨by unfold sm; decide, by decide⟩
theorem bz_13 : bz 2 (1 / 3) := ⟨by unfold sm; decide +kernel, by decide +kernel⟩
theorem bz_14 : bz 3 (1 / 4) := ⟨by unfold sm; decide +kernel, by decide +kernel⟩
local macro_rules | `(tactic| dl_puts) => `(tactic| first | with_reducible exact bz_3 | with_reducible exact bz_m2 | with_reducible exact bz_13 | with_reducible exact bz_14)
local macro_rules | `(tactic| dl_puts) => `(tactic| first | ((with_reducible apply bz_over); (focus dl_puts); (focus dl_puts); (focus assumption)) | fail)
local macro_rules | `(tactic| kct_strs) => `(tactic| repeat ((fail_if_success (with_reducible show forW _ _ _ _ _)); first | tb_rel | tb_start))
local macro_rules | `(tactic| k_allIn) => `(tactic| repeat (first | tb_rel | tb_start | dl_keeps | rw [lit01] | rw [lit11] | rw [lit21] | rw [lit31] | rw [litm21] | rw [lit13] | rw [lit14]))
section
variable {k l m n : Nat} {a b c d e f g p q u v x y : Rat} {Q : D → Prop}
/-! ### lines -/
def fst' (a b : Rat) : Rat := if a = 0 then b else a
theorem fst_ne (h : ¬ (a = 0 ∧ b = 0)) : fst' a b ≠ 0 := by
  unfold fst'
  split
  · rename_i h1; exact fun z => h ⟨h1, z⟩
  · assumption
theorem bz_fst (ha : bz k a) (hb : bz k b) : bz k (fst' a b) := by unfold fst'; split <;> assumption
theorem dr_ne0 (a : Rat) : PyData.eqv (dr a) c_NOTHING = decide (a = 0) := by rw [cN, eqv_dr]
theorem xline_ok (ha : bz k a) (hb : bz k b) (hc : bz k c) (hk : k < 3900) (h1 : (a = 0 ∧ b = 0) → Q (exD "line")) (h : ¬ (a = 0 ∧ b = 0) → Q (.tuple [ln (a / fst' a b) (b / fst' a b) (c / fst' a b), .bool (decide ((fst' a b).num < 0))])) : FX_line [dr a, dr b, dr c] Q := by
  unfold FX_line
  placed_of0
  rw [dr_ne0]
  have key : ∀ f, fst' a b = f → bz k f → sSeq (sIf (eT (eOp fEq (eVar 3) (eC c_NOTHING))) (sRaise (Str.ofString "line")) sNext)
          (sRet
            (eTup
              (aCons
                (eTup
                  (aCons (eC (PyData.int 0))
                    (aCons (eCallN 2 F_over (aCons (eVar 0) (aCons (eVar 3) aNil)))
                      (aCons (eCallN 2 F_over (aCons (eVar 1) (aCons (eVar 3) aNil)))
                        (aCons (eCallN 2 F_over (aCons (eVar 2) (aCons (eVar 3) aNil))) aNil)))))
                (aCons (eOp fLt (eOp fIx (eVar 3) (eC (PyData.int 0))) (eC (PyData.int 0))) aNil))))
          [Sl.va (dr a), Sl.va (dr b), Sl.va (dr c), Sl.va (dr f)] { nx := fun x => Q PyData.none, rt := Q, bk := fun x => False, ct := fun x => False } := by
    intro f hf hbf
    placed_of0
    rw [dr_ne0]
    by_cases hf0 : f = 0
    · rw [decide_eq_true hf0]
      placed_of0
      refine h1 ?_
      rw [← hf] at hf0
      exact Classical.byContradiction fun z => fst_ne z hf0
    · rw [decide_eq_false hf0]
      have hn : ¬ (a = 0 ∧ b = 0) := fun z => hf0 (by rw [← hf]; unfold fst'; rw [if_pos z.1]; exact z.2)
      have h := h hn
      rw [hf] at h
      placed_of1
      exact h
  by_cases ha0 : a = 0
  · rw [decide_eq_true ha0]
    kfm_turns
    exact key b (by unfold fst'; rw [if_pos ha0]) hb
  · rw [decide_eq_false ha0]
    kfm_turns
    exact key a (by unfold fst'; rw [if_neg ha0]) ha
theorem line_ok (h0 : ¬ (a = 0 ∧ b = 0)) (ha : bz k a) (hb : bz k b) (hc : bz k c) (hk : k < 3900) (h : ∀ t, Q (.tuple [ln (a / fst' a b) (b / fst' a b) (c / fst' a b), .bool t])) : F_line [dr a, dr b, dr c] Q := by
  unfold F_line
  tb_rel
  refine xline_ok ha hb hc hk (fun z => (h0 z).elim) fun _ => ?_
  placed_of0
  exact h _
end

section
variable {k l m n : Nat} {a b c d e f g p q u v x y : Rat} {Q : D → Prop}
theorem rsq_pos {x : Rat} (h : x ≠ 0) : 0 < x * x := by
  by_cases h0 : 0 < x
  · exact Rat.mul_pos h0 h0
  · have := Rat.mul_pos (a := -x) (b := -x) (by grind) (by grind)
    grind
theorem rsq_nonneg (x : Rat) : 0 ≤ x * x := by
  by_cases h : x = 0
  · rw [h]; grind
  · exact Rat.le_of_lt (rsq_pos h)
theorem nn_ne (h : ¬ (a = 0 ∧ b = 0)) : a * a + b * b ≠ 0 := by
  have h1 := rsq_nonneg a
  have h2 := rsq_nonneg b
  by_cases ha : a = 0
  · have := rsq_pos (x := b) fun z => h ⟨ha, z⟩
    grind
  · have := rsq_pos ha
    grind
/-! ### sides of points -/
end

section
variable {k l m n : Nat} {a b c d e f g p q r u v x y : Rat} {Q : D → Prop}
theorem num_pos' (r : Rat) : 0 < r.num ↔ 0 < r := by
  have h1 := Rat.num_nonneg (q := r)
  have h2 := Rat.num_eq_zero (q := r)
  constructor
  · intro h
    have a1 : 0 ≤ r := h1.mp (by omega)
    have a2 : r ≠ 0 := fun z => by have := h2.mpr z; omega
    grind
  · intro h
    have a1 : 0 ≤ r.num := h1.mpr (by grind)
    have a2 : r.num ≠ 0 := fun z => by have := h2.mp z; grind
    omega
theorem sgn_gt0 (r : Rat) : decide (0 < r.num.sign) = decide (0 < r) := by
  have h1 : 0 < r.num.sign ↔ 0 < r := by
    rw [← num_pos']
    exact Int.sign_pos_iff
  by_cases h : 0 < r
  · rw [decide_eq_true h, decide_eq_true (h1.mpr h)]
  · rw [decide_eq_false h, decide_eq_false fun z => h (h1.mp z)]
theorem sgn_le0 (r : Rat) : decide (r.num.sign ≤ 0) = decide (r ≤ 0) := by
  have h1 : 0 < r.num.sign ↔ 0 < r := by
    rw [← num_pos']
    exact Int.sign_pos_iff
  by_cases h : r ≤ 0
  · rw [decide_eq_true h, decide_eq_true]
    exact Classical.byContradiction fun z => by have := h1.mp (by omega); grind
  · rw [decide_eq_false h, decide_eq_false fun z => ?_]
    have := h1.mpr (by grind)
    omega
theorem sgn_eq0 (r : Rat) : decide (r.num.sign = 0) = decide (r = 0) := by
  have h1 : r.num.sign = 0 ↔ r = 0 := by
    rw [Int.sign_eq_zero_iff_zero, Rat.num_eq_zero]
  by_cases h : r = 0
  · rw [decide_eq_true h, decide_eq_true (h1.mpr h)]
  · rw [decide_eq_false h, decide_eq_false fun z => h (h1.mp z)]
/-! ### circles -/
theorem xcircle_ok (hx : bz k x) (hy : bz k y) (hr : bz k r) (hk : k < 1500) (h1 : r ≤ 0 → Q (exD "circle")) (h : 0 < r → Q (ci (-2 * x) (-2 * y) (x * x + y * y - r))) : FX_circle [dr x, dr y, dr r] Q := by
  unfold FX_circle
  k_allIn
  rw [sgn_le0]
  by_cases h0 : r ≤ 0
  · rw [decide_eq_true h0]
    placed_of0
    exact h1 h0
  · rw [decide_eq_false h0]
    k_allIn
    exact h (by grind)
theorem circle_ok (h0 : 0 < r) (hx : bz k x) (hy : bz k y) (hr : bz k r) (hk : k < 1500) (h : Q (ci (-2 * x) (-2 * y) (x * x + y * y - r))) : F_circle [dr x, dr y, dr r] Q := by
  unfold F_circle
  tb_rel
  refine xcircle_ok hx hy hr hk (fun z => by grind) fun _ => ?_
  placed_of0
  exact h
theorem middle_ok (ha : bz k a) (hb : bz k b) (hk : k < 3000) (h : Q (pt (-a / 2) (-b / 2))) : F_middle_of [ci a b c] Q := by
  unfold F_middle_of
  k_allIn
  exact h
theorem radius_ok (ha : bz k a) (hb : bz k b) (hc : bz k c) (hk : k < 900) (h : Q (dr (-a / 2 * (-a / 2) + -b / 2 * (-b / 2) - c))) : F_radius_of [ci a b c] Q := by
  unfold F_radius_of
  k_allIn
  refine middle_ok ha hb (by omega) ?_
  have h2a : bz (k + 2) (-a / 2) := bz_over (bz_neg ha) bz_2 (by decide)
  have h2b : bz (k + 2) (-b / 2) := bz_over (bz_neg hb) bz_2 (by decide)
  k_allIn
  exact h
instance : Stp (fInT true (.int 1) (.tuple [.int 0, .int 1]) Q) (Q (.bool false)) := ⟨fun q => q⟩
instance : Stp (fInT true (.int 0) (.tuple [.int 0, .int 1]) Q) (Q (.bool false)) := ⟨fun q => q⟩
theorem is_curve_ci (ha : bz k a) (hb : bz k b) (hc : bz k c) (hk : k < 900) (h : Q (.bool (decide (0 < -a / 2 * (-a / 2) + -b / 2 * (-b / 2) - c)))) : F_is_curve [ci a b c] Q := by
  unfold F_is_curve
  placed_of0
  rw [show cutD [PyData.int 1, dr a, dr b, dr c] (some 1) none = [dr a, dr b, dr c] from rfl]
  placed_of0
  refine sp_is_fraction ?_
  placed_of0
  refine sp_is_fraction ?_
  placed_of0
  refine sp_is_fraction ?_
  placed_of0
  refine radius_ok ha hb hc hk ?_
  placed_of1
  rw [sgn_gt0]
  exact h
theorem is_curve_ln (h1 : a = 1 ∨ a = 0 ∧ b = 1) (h : Q (.bool true)) : F_is_curve [ln a b c] Q := by
  unfold F_is_curve
  placed_of0
  rw [show cutD [PyData.int 0, dr a, dr b, dr c] (some 1) none = [dr a, dr b, dr c] from rfl]
  placed_of0
  refine sp_is_fraction ?_
  placed_of0
  refine sp_is_fraction ?_
  placed_of0
  refine sp_is_fraction ?_
  placed_of0
  rw [lit11, eqv_dr]
  by_cases ha : a = 1
  · rw [decide_eq_true ha]
    placed_of0
    exact h
  · rcases h1 with h1 | ⟨h1, h2⟩
    · exact (ha h1).elim
    rw [decide_eq_false ha]
    placed_of0
    rw [dr_ne0, decide_eq_true h1]
    placed_of0
    rw [lit11, eqv_dr, decide_eq_true h2]
    exact h
/-! ### the circle through three points -/
theorem xthrough_ok (hx : bz k x) (hy : bz k y) (hu : bz k u) (hv : bz k v) (hp : bz k p) (hq : bz k q) (hk : k < 12) (h1 : (u - x) * (q - y) - (v - y) * (p - x) = 0 → Q (exD "circle"))
    (h : ∀ m n : Rat, (u - x) * (q - y) - (v - y) * (p - x) ≠ 0 → (x - m) * (x - m) + (y - n) * (y - n) = (u - m) * (u - m) + (v - n) * (v - n) → (x - m) * (x - m) + (y - n) * (y - n) = (p - m) * (p - m) + (q - n) * (q - n) → bz (28 * k + 16) m → bz (28 * k + 16) n → 
      Q (ci (-2 * m) (-2 * n) (m * m + n * n - ((x - m) * (x - m) + (y - n) * (y - n))))) : FX_circle_through [pt x y, pt u v, pt p q] Q := by
  unfold FX_circle_through
  placed_of1
  rw [lit21]
  placed_of1
  rw [dr_ne0]
  by_cases h0 : 2 * ((u - x) * (q - y) - (v - y) * (p - x)) = 0
  · rw [decide_eq_true h0]
    placed_of0
    exact h1 (by grind)
  rw [decide_eq_false h0]
  have h0' : (u - x) * (q - y) - (v - y) * (p - x) ≠ 0 := by grind
  have bl : bz (8 * k + 7) (2 * ((u - x) * (q - y) - (v - y) * (p - x))) := bz_mono (by dl_puts) (by omega)
  have bm : bz (28 * k + 16) (((u * u + v * v - (x * x + y * y)) * (q - y) - (v - y) * (p * p + q * q - (x * x + y * y))) / (2 * ((u - x) * (q - y) - (v - y) * (p - x)))) := bz_mono (bz_over (by dl_puts) bl h0) (by omega)
  have bn : bz (28 * k + 16) (((u - x) * (p * p + q * q - (x * x + y * y)) - (u * u + v * v - (x * x + y * y)) * (p - x)) / (2 * ((u - x) * (q - y) - (v - y) * (p - x)))) := bz_mono (bz_over (by dl_puts) bl h0) (by omega)
  placed_of1
  obtain ⟨m, em⟩ : ∃ m, m = ((u * u + v * v - (x * x + y * y)) * (q - y) - (v - y) * (p * p + q * q - (x * x + y * y))) / (2 * ((u - x) * (q - y) - (v - y) * (p - x))) := ⟨_, rfl⟩
  obtain ⟨n, en⟩ : ∃ n, n = ((u - x) * (p * p + q * q - (x * x + y * y)) - (u * u + v * v - (x * x + y * y)) * (p - x)) / (2 * ((u - x) * (q - y) - (v - y) * (p - x))) := ⟨_, rfl⟩
  rw [← em, ← en]
  rw [← em] at bm
  rw [← en] at bn
  have em' : m * (2 * ((u - x) * (q - y) - (v - y) * (p - x))) = (u * u + v * v - (x * x + y * y)) * (q - y) - (v - y) * (p * p + q * q - (x * x + y * y)) := by rw [em]; exact Rat.div_mul_cancel h0
  have en' : n * (2 * ((u - x) * (q - y) - (v - y) * (p - x))) = (u - x) * (p * p + q * q - (x * x + y * y)) - (u * u + v * v - (x * x + y * y)) * (p - x) := by rw [en]; exact Rat.div_mul_cancel h0
  clear em en bl
  have q1 : (x - m) * (x - m) + (y - n) * (y - n) = (u - m) * (u - m) + (v - n) * (v - n) := by
    have e : (2 * (u - x) * m + 2 * (v - y) * n - (u * u + v * v - (x * x + y * y))) * ((u - x) * (q - y) - (v - y) * (p - x)) = 0 := by grind
    rcases Rat.mul_eq_zero.mp e with e | e
    · grind
    · exact (h0' e).elim
  have q2 : (x - m) * (x - m) + (y - n) * (y - n) = (p - m) * (p - m) + (q - n) * (q - n) := by
    have e : (2 * (p - x) * m + 2 * (q - y) * n - (p * p + q * q - (x * x + y * y))) * ((u - x) * (q - y) - (v - y) * (p - x)) = 0 := by grind
    rcases Rat.mul_eq_zero.mp e with e | e
    · grind
    · exact (h0' e).elim
  have key := h m n h0' q1 q2 bm bn
  refine xcircle_ok (k := 116 * k + 70) (bz_mono bm (by omega)) (bz_mono bn (by omega)) (bz_mono (by dl_puts) (by omega)) (by omega) (fun hr => ?_) fun _ => key
  exfalso
  have s1 := rsq_nonneg (x - m)
  have s2 := rsq_nonneg (y - n)
  have s3 := rsq_nonneg (u - m)
  have s4 := rsq_nonneg (v - n)
  have s5 := rsq_nonneg (p - m)
  have s6 := rsq_nonneg (q - n)
  have zz : ∀ t : Rat, 0 ≤ t * t → t * t ≤ 0 → t = 0 := fun t h1 h2 => by
    refine Classical.byContradiction fun z => ?_
    have := rsq_pos z
    grind
  have z1 := zz (x - m) s1 (by grind)
  have z2 := zz (y - n) s2 (by grind)
  have z3 := zz (u - m) s3 (by grind)
  have z4 := zz (v - n) s4 (by grind)
  refine h0' ?_
  have : u - x = 0 := by grind
  have : v - y = 0 := by grind
  grind
theorem through_ok (h0 : (u - x) * (q - y) - (v - y) * (p - x) ≠ 0) (hx : bz k x) (hy : bz k y) (hu : bz k u) (hv : bz k v) (hp : bz k p) (hq : bz k q) (hk : k < 12)
    (h : ∀ m n : Rat, (x - m) * (x - m) + (y - n) * (y - n) = (u - m) * (u - m) + (v - n) * (v - n) → (x - m) * (x - m) + (y - n) * (y - n) = (p - m) * (p - m) + (q - n) * (q - n) → bz (28 * k + 16) m → bz (28 * k + 16) n → 
      Q (ci (-2 * m) (-2 * n) (m * m + n * n - ((x - m) * (x - m) + (y - n) * (y - n))))) : F_circle_through [pt x y, pt u v, pt p q] Q := by
  unfold F_circle_through
  tb_rel
  refine xthrough_ok hx hy hu hv hp hq hk (fun z => (h0 z).elim) fun m n _ q1 q2 bm bn => ?_
  placed_of0
  exact h m n q1 q2 bm bn
end

section
variable {k l m n ka kb kc kd ke kf : Nat} {a b c d e f g p q r s t u v x y z C X Y : Rat} {Q : D → Prop}
/-! ### judges (k01) -/
local macro_rules | `(tactic| dl_keeps) => `(tactic| (with_reducible apply sp_is_number))
local macro_rules | `(tactic| dl_keeps) => `(tactic| (with_reducible apply sp_common))
local macro_rules | `(tactic| dl_keeps) => `(tactic| (with_reducible apply sp_is_fraction))
/-! ### what compare tells -/
/-! ### tidy of squares -/
theorem sq_parts (s : Rat) : (s * s).num = s.num * s.num ∧ (((s * s).den : Nat) : Int) = ((s.den : Nat) : Int) * ((s.den : Nat) : Int) := by
  have := dr_sq s
  simp only [dr, PyData.tuple.injEq, List.cons.injEq, PyData.int.injEq] at this
  exact ⟨this.1.symm, this.2.1.symm⟩
theorem root_uniq {i j : Int} (hi : 0 ≤ i) (hj : 0 ≤ j) (h1 : i * i ≤ j * j) (h2 : j * j < (i + 1) * (i + 1)) : i = j := by
  rcases Int.lt_trichotomy i j with h | h | h
  · have := Int.mul_le_mul (show i + 1 ≤ j by omega) (show i + 1 ≤ j by omega) (by omega) (by omega)
    omega
  · exact h
  · have := Int.mul_le_mul (show j + 1 ≤ i by omega) (show j + 1 ≤ i by omega) (by omega) (by omega)
    have e : (j + 1) * (j + 1) = j * j + 2 * j + 1 := by grind
    omega
theorem sp_tidy_sq (h0 : 0 ≤ s) (hcs : bz kc (s * s)) (hbs : bz kc s) (ha : bz ka a) (hb : bz kb b) (hk : kc + ka + kb < 3900) (h : Q (rt (a + b * s) 0 0)) : F_tidy [dr a, dr b, dr (s * s)] Q := by
  by_cases b0 : b = 0
  · refine sp_tidy0 hb ?_ (.inl b0)
    rw [b0, show a + 0 * s = a by grind] at h
    exact h
  by_cases s0 : s * s = 0
  · refine sp_tidy0 hb ?_ (.inr s0)
    have : s = 0 := by rcases Rat.mul_eq_zero.mp s0 with h | h <;> exact h
    rw [this, show a + b * 0 = a by grind] at h
    exact h
  obtain ⟨e1, e2⟩ := sq_parts s
  have n0 : 0 ≤ s.num := Rat.num_nonneg.mpr h0
  unfold F_tidy
  placed_of1
  rw [cN, eqv_dr, decide_eq_false b0]
  placed_of1
  rw [eqv_dr, decide_eq_false s0]
  placed_of1
  have hn : 0 ≤ (s * s).num := by rw [e1]; exact Int.mul_nonneg n0 n0
  refine sp_whole_root hn hcs.1 (by omega) fun u u0 u1 u2 => ?_
  placed_of1
  refine sp_whole_root (by omega) (sm_den hcs) (by omega) fun v v0 v1 v2 => ?_
  placed_of1
  rw [e1] at u1 u2
  rw [e2] at v1 v2
  have eu := root_uniq u0 n0 u1 u2
  have ev := root_uniq v0 (by omega) v1 v2
  subst eu
  subst ev
  rw [e1, e2, if_pos rfl]
  placed_of1
  rw [if_pos rfl]
  placed_of1
  exact h
end
local macro_rules | `(tactic| dl_keeps) => `(tactic| (with_reducible apply sp_is_number))
local macro_rules | `(tactic| dl_keeps) => `(tactic| (with_reducible apply sp_common))
local macro_rules | `(tactic| dl_keeps) => `(tactic| (with_reducible apply sp_is_fraction))

section
variable {k l m n ka kb kc kd ke kf : Nat} {a b c d e f g p q r s t u v x y z C X Y : Rat} {Q : D → Prop}
theorem half_sq {s : Int} (h : sm k (s * s)) : sm (k / 2 + 1) s := by
  unfold sm at *
  rw [Int.natAbs_mul] at h
  refine Classical.byContradiction fun z => ?_
  have h1 := Nat.mul_le_mul (Nat.le_of_not_lt z) (Nat.le_of_not_lt z)
  rw [← Nat.pow_add] at h1
  have h2 : 2 ^ k ≤ 2 ^ (k / 2 + 1 + (k / 2 + 1)) := Nat.pow_le_pow_right (by decide) (by omega)
  omega
theorem bz_sqrt (h : bz k (s * s)) : bz (k / 2 + 1) s := by
  obtain ⟨e1, e2⟩ := sq_parts s
  refine ⟨half_sq (by rw [← e1]; exact h.1), ?_⟩
  have h2 : sm (k / 2 + 1) ((s.den : Nat) : Int) := half_sq (by rw [← e2]; exact sm_den h)
  unfold sm at h2
  rwa [Int.natAbs_natCast] at h2
theorem nsq_or (h : 0 < c) : (∃ s, 0 ≤ s ∧ c = s * s) ∨ Nsq c := by
  by_cases hs : ∃ s, 0 ≤ s ∧ c = s * s
  · exact .inl hs
  · refine .inr ⟨h, fun r hr => hs ?_⟩
    by_cases h0 : 0 ≤ r
    · exact ⟨r, h0, hr.symm⟩
    · exact ⟨-r, by grind, by grind⟩
theorem val_lt_q (h : p < q) : val p 0 C < val q 0 C := by
  unfold val
  have := Rl.q_lt.mpr h
  rw [Rl.q_zero]
  grind
theorem val_lt_r (hc : Nsq C) (h : q < s) : val p q C < val p s C := by
  unfold val
  have h1 := Rl.q_lt.mpr h
  have h2 := Rl.mul_pos (x := Rl.q s - Rl.q q) (by grind) (sq_pos hc.1)
  grind
/-! ### both roots -/
/-- what they are -/
def Ex (a b c m1 p1 m2 p2 C : Rat) : Prop := ∃ m P, m * (2 * a) = -b ∧ 0 < P ∧ P * P * (4 * (a * a)) = 1 ∧ ((∃ s, 0 ≤ s ∧ b * b - 4 * (a * c) = s * s ∧ m1 = m + -P * s ∧ p1 = 0 ∧ m2 = m + P * s ∧ p2 = 0 ∧ C = 2) ∨ (Nsq (b * b - 4 * (a * c)) ∧ m1 = m ∧ p1 = -P ∧ m2 = m ∧ p2 = P ∧ C = b * b - 4 * (a * c)))
structure Two (a b c m1 p1 m2 p2 C : Rat) : Prop where
  e1 : a * (m1 * m1 + p1 * p1 * C) + b * m1 + c = 0
  f1 : (2 * a * m1 + b) * p1 = 0
  e2 : a * (m2 * m2 + p2 * p2 * C) + b * m2 + c = 0
  f2 : (2 * a * m2 + b) * p2 = 0
  lt : val m1 p1 C < val m2 p2 C
  ex : Ex a b c m1 p1 m2 p2 C
theorem sgn_lt0 (r : Rat) : decide (r.num.sign < 0) = decide (r < 0) := by
  have h1 := sgn_gt0 (-r)
  rw [Rat.neg_num, Int.sign_neg] at h1
  by_cases h : r < 0
  · rw [decide_eq_true (show 0 < -r by grind)] at h1
    have := of_decide_eq_true h1
    rw [decide_eq_true h, decide_eq_true (by omega)]
  · rw [decide_eq_false (show ¬ 0 < -r by grind)] at h1
    have := of_decide_eq_false h1
    rw [decide_eq_false h, decide_eq_false (by omega)]
theorem two_eq {a b c m P R : Rat} (l0 : 2 * a ≠ 0) (em : m * (2 * a) = -b) (eP : (P * P) * (4 * (a * a)) = 1) (hR : b * b - 4 * (a * c) = R) : a * (m * m + P * P * R) + b * m + c = 0 := by
  have z : (a * (m * m + P * P * R) + b * m + c) * (2 * a) = 0 := by
    have y1 : (a * (m * m + P * P * R) + b * m + c) * (2 * a) * 2 = (m * (2 * a)) * (m * (2 * a)) + (P * P) * (4 * (a * a)) * R + 2 * b * (m * (2 * a)) + 4 * (a * c) := by grind
    rw [em, eP] at y1
    grind
  rcases Rat.mul_eq_zero.mp z with z | z
  · exact z
  · exact (l0 z).elim
theorem both_roots_ok (ha0 : a ≠ 0) (ha : bz ka a) (hb : bz kb b) (hc : bz kc c) (hk : 2 * kb + 4 * ka + kc < 1500)
    (h0 : b * b - 4 * (a * c) < 0 → Q (.list []))
    (h1 : b * b - 4 * (a * c) = 0 → bz (kb + ka + 2) (-b / (2 * a)) → Q (.list [nrm (-b / (2 * a)) 0 2]))
    (h2 : 0 < b * b - 4 * (a * c) → ∀ M P R m1 p1 m2 p2 C, (M = kb + ka + 2 ∧ P = ka + 3 ∧ R = 2 * kb + ka + kc + 4 ∨ M = kb + 2 * ka + 6 + (2 * kb + ka + kc + 4) / 2 + 1 ∧ P = 1 ∧ R = 2) → Nsq C → bz R C → bz M m1 → bz P p1 → bz M m2 → bz P p2 → Two a b c m1 p1 m2 p2 C → Q (.list [nrm m1 p1 C, nrm m2 p2 C])) : F_both_roots [dr a, dr b, dr c] Q := by
  have bl : bz (ka + 2) (2 * a) := bz_mono (by dl_puts) (by omega)
  have l0 : 2 * a ≠ 0 := by grind
  have br : bz (2 * kb + ka + kc + 4) (b * b - 4 * (a * c)) := bz_mono (bz_sub (bz_mul hb hb) (bz_mul (k := 3) ⟨by unfold sm; decide, by decide⟩ (bz_mul ha hc))) (by omega)
  have bm : bz (kb + ka + 2) (-b / (2 * a)) := bz_mono (bz_over (bz_neg hb) bl l0) (by omega)
  have bp : bz (ka + 3) (1 / (2 * a)) := bz_mono (bz_over bz_1 bl l0) (by omega)
  have bp' := bz_neg bp
  have b4 : bz 3 (4 : Rat) := ⟨by unfold sm; decide, by decide⟩
  have lit41 : PyData.tuple [.int 4, .int 1] = dr 4 := rfl
  unfold F_both_roots
  k_allIn
  rw [lit41]
  k_allIn
  generalize hR : b * b - 4 * (a * c) = R at *
  rw [sgn_lt0]
  by_cases c0 : R < 0
  · rw [decide_eq_true c0]
    placed_of0
    exact h0 c0
  rw [decide_eq_false c0]
  k_allIn
  rw [dr_ne0]
  by_cases c1 : R = 0
  · rw [decide_eq_true c1]
    k_allIn
    exact h1 c1 bm
  rw [decide_eq_false c1]
  k_allIn
  rw [sgn_gt0]
  have c2 : 0 < R := by grind
  generalize hm : -b / (2 * a) = m at *
  have em : m * (2 * a) = -b := by rw [← hm]; exact Rat.div_mul_cancel l0
  have ep : 1 / (2 * a) * (2 * a) = 1 := Rat.div_mul_cancel l0
  have fin : ∀ P : Rat, 0 < P → bz (ka + 3) P → (P * P) * (4 * (a * a)) = 1 → sRet (eLst (aCons (eCallN 3 F_tidy (aCons (eVar 5) (aCons (eCallN 1 F_turned (aCons (eVar 6) aNil)) (aCons (eVar 3) aNil)))) (aCons (eCallN 3 F_tidy (aCons (eVar 5) (aCons (eVar 6) (aCons (eVar 3) aNil)))) aNil)))
      [Sl.va (dr a), Sl.va (dr b), Sl.va (dr c), Sl.va (dr R), Sl.va (dr (2 * a)), Sl.va (dr m), Sl.va (dr P)] { nx := fun x => Q PyData.none, rt := Q, bk := fun x => False, ct := fun x => False } := by
    intro P hP bP eP
    have bP' := bz_neg bP
    have f0 : 2 * a * m + b = 0 := by grind
    have e0 : a * (m * m + P * P * R) + b * m + c = 0 := two_eq l0 em eP hR
    rcases nsq_or c2 with ⟨s, s0, es⟩ | hN
    · have bs := bz_sqrt (es ▸ br)
      have sp : 0 < s := by
        by_cases h : s = 0
        · rw [h] at es; grind
        · grind
      k_allIn
      rw [es]
      refine sp_tidy_sq s0 (es ▸ br) (bz_mono bs (by omega)) bm bP' (by omega) ?_
      k_allIn
      refine sp_tidy_sq s0 (es ▸ br) (bz_mono bs (by omega)) bm bP (by omega) ?_
      k_allIn
      have b1 : bz (kb + 2 * ka + 6 + (2 * kb + ka + kc + 4) / 2 + 1) (m + -P * s) := bz_mono (bz_add bm (bz_mul bP' bs)) (by omega)
      have b2 : bz (kb + 2 * ka + 6 + (2 * kb + ka + kc + 4) / 2 + 1) (m + P * s) := bz_mono (bz_add bm (bz_mul bP bs)) (by omega)
      refine h2 c2 _ _ _ (m + -P * s) 0 (m + P * s) 0 2 (.inr ⟨rfl, rfl, rfl⟩) nsq_2 bz_2 b1 bz_0 b2 bz_0 ⟨by grind, by grind, by grind, by grind, val_lt_q ?_, ⟨m, P, em, hP, eP, .inl ⟨s, s0, hR.trans es, rfl, rfl, rfl, rfl, rfl⟩⟩⟩
      have := Rat.mul_pos hP sp
      grind
    · k_allIn
      refine h2 c2 _ _ _ m (-P) m P R (.inl ⟨rfl, rfl, rfl⟩) hN br bm bP' bm bP ⟨by grind, by grind, by grind, by grind, val_lt_r hN (by grind), ⟨m, P, em, hP, eP, .inr ⟨hR ▸ hN, rfl, rfl, rfl, rfl, hR.symm⟩⟩⟩
  by_cases hp : 0 < 1 / (2 * a)
  · rw [decide_eq_true hp]
    repeat (first | (with_reducible refine fin _ hp bp ?_) | tb_rel | dl_keeps)
    grind
  · rw [decide_eq_false hp]
    repeat (first | (with_reducible refine fin _ ?_ bp' ?_) | tb_rel | dl_keeps)
    · refine Classical.byContradiction fun z => ?_
      have : 1 / (2 * a) = 0 := by grind
      rw [this] at ep
      grind
    · grind
end

section
variable {k l m n ka kb kc kd ke kf : Nat} {a b c d e f g p q r s t u v x y z C X Y : Rat} {Q : D → Prop}
/-! ### points with roots -/
abbrev pn (p q r s C : Rat) : D := .tuple [nrm p q C, nrm r s C]
/-- few bits, told of both parts -/
def PB (p q r s C : Rat) : Prop := Nsq C ∧ ∃ M P R : Nat, 16 * M + 12 * P + 3 * R ≤ 6000 ∧ M ≤ 400 ∧ P ≤ 100 ∧ R ≤ 400 ∧ bz M p ∧ bz P q ∧ bz (M + 56) r ∧ bz (P + 25) s ∧ bz R C
theorem pn_eq (p q r s C : Rat) : pn p q r s C = .tuple [rt p q (trd q C), rt r s (trd s C)] := rfl
theorem sg1_0 (a c : Rat) : sg1 a 0 c = sgn a := by
  rw [sg1_def _ 0 rfl (by split <;> rfl), if_pos (.inr rfl)]
theorem sg1_trd (a b C : Rat) : sg1 a b (trd b C) = sg1 a b C := by
  by_cases h : b = 0
  · rw [h, sg1_0, sg1_0]
  · unfold trd; rw [if_neg h]
theorem trd_or (b C : Rat) : trd b C = C ∨ b = 0 ∧ trd b C = 0 := by
  unfold trd
  by_cases h : b = 0
  · rw [if_pos h]; exact .inr ⟨h, rfl⟩
  · rw [if_neg h]; exact .inl rfl
theorem lit41 : PyData.tuple [.int 4, .int 1] = dr 4 := rfl
theorem bz_4 : bz 3 (4 : Rat) := ⟨by unfold sm; decide, by decide⟩
local macro_rules | `(tactic| dl_puts) => `(tactic| with_reducible exact bz_4)
theorem num_trd (hc : Nsq C) : decide (0 < (trd q C).num) = !decide (q = 0) := by
  have h1 := num_c (c := trd q C) (trd_nonneg (by have := hc.1; grind))
  by_cases h : q = 0
  · rw [decide_eq_true h, decide_eq_false]
    · rfl
    · rw [h1]; unfold trd; rw [if_pos h]; exact fun z => z rfl
  · rw [decide_eq_false h, decide_eq_true]
    · rfl
    · rw [h1]; unfold trd; rw [if_neg h]; have := hc.1; grind
/-! ### the same by the program -/
theorem sside_ln (hp : PB p q r s C) (ha : bz 12 a) (hb : bz 12 b) (hc : bz 17 c) (h : Q (.int (sg1 (a * p + b * r + c) (a * q + b * s) C))) : F_sign_at [ln a b c, pn p q r s C] Q := by
  obtain ⟨hC, M, P, R, hm, hm1, hm2, hm3, bp, bq, br, bs, bC⟩ := hp
  have v1 : bz (2 * M + 82) (p * a + r * b) := bz_mono (bz_add (bz_mul bp ha) (bz_mul br hb)) (by omega)
  have v2 : bz (2 * P + 82) (q * a + s * b) := bz_mono (bz_add (bz_mul bq ha) (bz_mul bs hb)) (by omega)
  unfold F_sign_at
  placed_of0
  unfold F_value_at
  placed_of0
  refine sp_by_fraction (m := R) (k := M + P + 81) (l := 12) hC bC (bz_mono bp (by omega)) (bz_mono bq (by omega)) ha (by omega) (by omega) ?_
  placed_of0
  refine sp_by_fraction (m := R) (k := M + P + 81) (l := 12) hC bC (bz_mono br (by omega)) (bz_mono bs (by omega)) hb (by omega) (by omega) ?_
  placed_of0
  refine sp_added_root (m := R) (k := M + P + 93) hC bC (bz_mono (bz_mul bp ha) (by omega)) (bz_mono (bz_mul bq ha) (by omega)) (bz_mono (bz_mul br hb) (by omega)) (bz_mono (bz_mul bs hb) (by omega)) (by omega) (by omega) ?_
  placed_of0
  refine sp_plain ?_
  rw [← nrm_0 c C]
  placed_of0
  refine sp_added_root (m := R) (k := 2 * M + 2 * P + 100) hC bC (bz_mono v1 (by omega)) (bz_mono v2 (by omega)) (bz_mono hc (by omega)) (bz_mono bz_0 (by omega)) (by omega) (by omega) ?_
  placed_of0
  rw [nrm_eq]
  refine sp_sign_of_root (ka := 2 * M + 110) (kb := 2 * P + 90) (kc := R + 1) (bz_mono (bz_add v1 hc) (by omega)) (bz_mono (bz_add v2 bz_0) (by omega)) (bz_trd1 bC) (by omega) ?_
  rw [sg1_trd, show p * a + r * b + c = a * p + b * r + c by grind, show q * a + s * b + 0 = a * q + b * s by grind]
  exact h
theorem sside_ci (hp : PB p q r s C) (ha : bz 5 a) (hb : bz 5 b) (hc : bz 10 c) (h : Q (.int (sg1 (a * p + b * r + c + (p * p + r * r + (q * q + s * s) * C)) (a * q + b * s + 2 * (p * q + r * s)) C))) : F_sign_at [ci a b c, pn p q r s C] Q := by
  obtain ⟨hC, M, P, R, hm, hm1, hm2, hm3, bp, bq, br, bs, bC⟩ := hp
  have v1 : bz (2 * M + 82) (p * a + r * b) := bz_mono (bz_add (bz_mul bp ha) (bz_mul br hb)) (by omega)
  have v2 : bz (2 * P + 82) (q * a + s * b) := bz_mono (bz_add (bz_mul bq ha) (bz_mul bs hb)) (by omega)
  have v3 : bz (2 * M + 110) (p * a + r * b + c) := bz_mono (bz_add v1 hc) (by omega)
  have v4 : bz (2 * P + 90) (q * a + s * b + 0) := bz_mono (bz_add v2 bz_0) (by omega)
  have w1 : bz (2 * M + 2 * P + R + 1) (p * p + q * q * C) := bz_mono (bz_add (bz_mul bp bp) (bz_mul (bz_mul bq bq) bC)) (by omega)
  have w2 : bz (2 * M + 2 * P + 1) (p * q + q * p) := bz_mono (bz_add (bz_mul bp bq) (bz_mul bq bp)) (by omega)
  have w3 : bz (2 * M + 2 * P + R + 163) (r * r + s * s * C) := bz_mono (bz_add (bz_mul br br) (bz_mul (bz_mul bs bs) bC)) (by omega)
  have w4 : bz (2 * M + 2 * P + 163) (r * s + s * r) := bz_mono (bz_add (bz_mul br bs) (bz_mul bs br)) (by omega)
  unfold F_sign_at
  placed_of0
  unfold F_value_at
  placed_of0
  refine sp_by_fraction (m := R) (k := M + P + 81) (l := 5) hC bC (bz_mono bp (by omega)) (bz_mono bq (by omega)) ha (by omega) (by omega) ?_
  placed_of0
  refine sp_by_fraction (m := R) (k := M + P + 81) (l := 5) hC bC (bz_mono br (by omega)) (bz_mono bs (by omega)) hb (by omega) (by omega) ?_
  placed_of0
  refine sp_added_root (m := R) (k := M + P + 93) hC bC (bz_mono (bz_mul bp ha) (by omega)) (bz_mono (bz_mul bq ha) (by omega)) (bz_mono (bz_mul br hb) (by omega)) (bz_mono (bz_mul bs hb) (by omega)) (by omega) (by omega) ?_
  placed_of0
  refine sp_plain ?_
  rw [← nrm_0 c C]
  placed_of0
  refine sp_added_root (m := R) (k := 2 * M + 2 * P + 100) hC bC (bz_mono v1 (by omega)) (bz_mono v2 (by omega)) (bz_mono hc (by omega)) (bz_mono bz_0 (by omega)) (by omega) (by omega) ?_
  placed_of0
  refine sp_times_root (m := R) (k := M + P + 81) (l := M + P + 81) hC bC (bz_mono bp (by omega)) (bz_mono bq (by omega)) (bz_mono bp (by omega)) (bz_mono bq (by omega)) (by omega) (by omega) ?_
  placed_of0
  refine sp_times_root (m := R) (k := M + P + 81) (l := M + P + 81) hC bC (bz_mono br (by omega)) (bz_mono bs (by omega)) (bz_mono br (by omega)) (bz_mono bs (by omega)) (by omega) (by omega) ?_
  placed_of0
  refine sp_added_root (m := R) (k := 2 * M + 2 * P + R + 163) hC bC (bz_mono w1 (by omega)) (bz_mono w2 (by omega)) (bz_mono w3 (by omega)) (bz_mono w4 (by omega)) (by omega) (by omega) ?_
  placed_of0
  refine sp_added_root (m := R) (k := 4 * M + 4 * P + 2 * R + 180) hC bC (bz_mono v3 (by omega)) (bz_mono v4 (by omega)) (bz_mono (bz_add w1 w3) (by omega)) (bz_mono (bz_add w2 w4) (by omega)) (by omega) (by omega) ?_
  placed_of0
  rw [nrm_eq]
  have e1 : p * a + r * b + c + (p * p + q * q * C + (r * r + s * s * C)) = a * p + b * r + c + (p * p + r * r + (q * q + s * s) * C) := by grind
  have e2 : q * a + s * b + 0 + (p * q + q * p + (r * s + s * r)) = a * q + b * s + 2 * (p * q + r * s) := by grind
  rw [e1, e2]
  refine sp_sign_of_root (ka := 6 * M + 4 * P + R + 270) (kb := 2 * M + 4 * P + 170) (kc := R + 1) ?_ ?_ (bz_trd1 bC) (by omega) ?_
  · exact bz_mono (bz_add (bz_add (bz_add (bz_mul ha bp) (bz_mul hb br)) hc) (bz_add (bz_add (bz_mul bp bp) (bz_mul br br)) (bz_mul (bz_add (bz_mul bq bq) (bz_mul bs bs)) bC))) (by omega)
  · exact bz_mono (bz_add (bz_add (bz_mul ha bq) (bz_mul hb bs)) (bz_mul bz_2 (bz_add (bz_mul bp bq) (bz_mul br bs)))) (by omega)
  rw [sg1_trd]
  exact h
end
local macro_rules | `(tactic| dl_puts) => `(tactic| with_reducible exact bz_4)

/-! ### where curves meet -/
def OnL (a b c p q r s : Rat) : Prop := a * p + b * r + c = 0 ∧ a * q + b * s = 0
def OnC (a b c p q r s C : Rat) : Prop := a * p + b * r + c + (p * p + r * r + (q * q + s * s) * C) = 0 ∧ a * q + b * s + 2 * (p * q + r * s) = 0
def Lt (p q r s p' q' r' s' C : Rat) : Prop := val p q C < val p' q' C ∨ (p = p' ∧ q = q') ∧ val r s C < val r' s' C
def dsc (a b c d e f : Rat) : Rat := (-d / 2 * (-d / 2) + -e / 2 * (-e / 2) - f) * (a * a + b * b) - (a * (-d / 2) + b * (-e / 2) + c) * (a * (-d / 2) + b * (-e / 2) + c)
section
variable {k l n ka kb kc kd ke kf : Nat} {a b c d e f g m p q r s t u v x y z C X Y : Rat} {Q : D → Prop}
theorem sp_is_upright (h : Q (.bool (decide (b = 0)))) : F_is_upright [ln a b c] Q := by
  unfold F_is_upright
  placed_of0
  rw [dr_ne0]
  exact h
theorem is_upright_ci (h : Q (.bool false)) : F_is_upright [ci a b c] Q := by
  unfold F_is_upright
  placed_of0
  exact h
theorem sub_up (b0 : b = 0) (a1 : a = 1) : e * e - 4 * (1 * (-c * -c + d * -c + f)) = 4 * dsc a b c d e f := by
  subst b0 a1
  unfold dsc
  grind
theorem dsc_m {M N : Rat} (b0 : b ≠ 0) (hm : M = -a / b) (hn : N = -c / b) : ((2 * (M * N) + d + e * M) * (2 * (M * N) + d + e * M) - 4 * ((1 + M * M) * (N * N + e * N + f))) * (b * b) = 4 * dsc a b c d e f := by
  have h1 : a = -(M * b) := by rw [hm]; have := Rat.div_mul_cancel (a := -a) b0; grind
  have h2 : c = -(N * b) := by rw [hn]; have := Rat.div_mul_cancel (a := -c) b0; grind
  unfold dsc
  rw [h1, h2]
  clear hm hn h1 h2
  grind
theorem bb_pos (b0 : b ≠ 0) : 0 < b * b := rsq_pos b0
theorem mul_pos_iff {x y : Rat} (h : 0 < y) : (0 < x ↔ 0 < x * y) := by
  constructor
  · intro z; exact Rat.mul_pos z h
  · intro z
    refine Classical.byContradiction fun w => ?_
    have := Rat.mul_nonneg (a := -x) (b := y) (by grind) (by grind)
    grind
theorem sgn_of_mul {x y z : Rat} (h : 0 < y) (e : x * y = 4 * z) : (x < 0 ↔ z < 0) ∧ (x = 0 ↔ z = 0) ∧ (0 < x ↔ 0 < z) := by
  have h1 := mul_pos_iff (x := x) h
  have h2 := mul_pos_iff (x := -x) h
  refine ⟨?_, ?_, ?_⟩
  · constructor
    · intro w; have := h2.mp (by grind); grind
    · intro w; have := h2.mpr (by grind); grind
  · constructor
    · intro w; rw [w] at e; grind
    · intro w; rw [w] at e
      rcases Rat.mul_eq_zero.mp (show x * y = 0 by grind) with h | h <;> grind
  · constructor
    · intro w; have := h1.mp w; grind
    · intro w; have := h1.mpr (by grind); grind
end

section
variable {k l n ka kb kc kd ke kf : Nat} {a b c d e f g m p q r s t u v x y z C X Y M N : Rat} {Q : D → Prop}
theorem on_l (b0 : b ≠ 0) (hm : M = -a / b) (hn : N = -c / b) : OnL a b c x y (x * M + N) (y * M) := by
  have h1 : a = -(M * b) := by rw [hm]; have := Rat.div_mul_cancel (a := -a) b0; grind
  have h2 : c = -(N * b) := by rw [hn]; have := Rat.div_mul_cancel (a := -c) b0; grind
  unfold OnL
  rw [h1, h2]
  clear hm hn h1 h2
  constructor <;> grind
theorem on_c (e1 : (1 + M * M) * (x * x + y * y * C) + (2 * (M * N) + d + e * M) * x + (N * N + e * N + f) = 0) (f1 : (2 * (1 + M * M) * x + (2 * (M * N) + d + e * M)) * y = 0) : OnC d e f x y (x * M + N) (y * M) C := by
  unfold OnC
  constructor <;> grind
theorem pb_1 {A B R : Nat} (hC : Nsq C) (h1 : bz A x) (h2 : bz B y) (h3 : bz R C) (h4 : bz (A + 56) u) (h5 : bz (B + 25) v) (hk : 16 * A + 12 * B + 3 * R ≤ 6000 ∧ A ≤ 400 ∧ B ≤ 100 ∧ R ≤ 400) : PB x y u v C := ⟨hC, A, B, R, hk.1, hk.2.1, hk.2.2.1, hk.2.2.2, h1, h2, h4, h5, h3⟩
theorem one_pos (M : Rat) : 1 + M * M ≠ 0 := by
  have := rsq_nonneg M
  grind
def QA (a b : Rat) : Rat := if b = 0 then 1 else 1 + -a / b * (-a / b)
def QB (a b c d e : Rat) : Rat := if b = 0 then e else 2 * (-a / b * (-c / b)) + d + e * (-a / b)
def QC (b c d e f : Rat) : Rat := if b = 0 then -c * -c + d * -c + f else -c / b * (-c / b) + e * (-c / b) + f
def Lc1 (a b c d e f p r : Rat) : Prop := ∃ m, m * (2 * QA a b) = -QB a b c d e ∧ (b = 0 ∧ p = -c ∧ r = m ∨ b ≠ 0 ∧ p = m ∧ r = m * (-a / b) + -c / b)
def Lc2 (a b c d e f p q r s p' q' r' s' C : Rat) : Prop := ∃ m1 p1 m2 p2, Ex (QA a b) (QB a b c d e) (QC b c d e f) m1 p1 m2 p2 C ∧ (b = 0 ∧ (p = -c ∧ q = 0 ∧ r = m1 ∧ s = p1) ∧ (p' = -c ∧ q' = 0 ∧ r' = m2 ∧ s' = p2) ∨ b ≠ 0 ∧ (p = m1 ∧ q = p1 ∧ r = m1 * (-a / b) + -c / b ∧ s = p1 * (-a / b)) ∧ (p' = m2 ∧ q' = p2 ∧ r' = m2 * (-a / b) + -c / b ∧ s' = p2 * (-a / b)))
theorem line_circle_ok (hab : b = 0 → a = 1) (ha : bz 12 a) (hb : bz 12 b) (hc : bz 17 c) (hd : bz 5 d) (he : bz 5 e) (hf : bz 10 f)
    (h0 : dsc a b c d e f < 0 → Q (.list []))
    (h1 : dsc a b c d e f = 0 → ∀ p r, PB p 0 r 0 2 → OnL a b c p 0 r 0 → OnC d e f p 0 r 0 2 → Lc1 a b c d e f p r → Q (.list [pn p 0 r 0 2]))
    (h2 : 0 < dsc a b c d e f → ∀ p q r s p' q' r' s' C, PB p q r s C → PB p' q' r' s' C → OnL a b c p q r s → OnL a b c p' q' r' s' → OnC d e f p q r s C → OnC d e f p' q' r' s' C → Lt p q r s p' q' r' s' C → Lc2 a b c d e f p q r s p' q' r' s' C → Q (.list [pn p q r s C, pn p' q' r' s' C])) : F_of_line_and_circle [ln a b c, ci d e f] Q := by
  unfold F_of_line_and_circle
  placed_of0
  refine sp_is_upright ?_
  by_cases b0 : b = 0
  · rw [decide_eq_true b0]
    have a1 := hab b0
    have es := sub_up (c := c) (d := d) (e := e) (f := f) b0 a1
    have w1 : bz 34 (-c * -c) := bz_mul (bz_neg hc) (bz_neg hc)
    have w2 : bz 22 (d * -c) := bz_mul hd (bz_neg hc)
    have w3 : bz 70 (-c * -c + d * -c + f) := bz_mono (bz_add (bz_add w1 w2) hf) (by decide)
    k_allIn
    refine sp_sum3 w1 w2 hf (by decide) ?_
    k_allIn
    refine both_roots_ok (ka := 1) (kb := 5) (kc := 70) (show (1 : Rat) ≠ 0 by decide) bz_1 he w3 (by decide) (fun z => ?_) (fun z bx => ?_) (fun z A B R m1 p1 m2 p2 C hk hC bC q1 q2 q3 q4 hT => ?_)
    · k_allIn
      exact h0 (by grind)
    · k_allIn
      refine h1 (by grind) (-c) (-e / (2 * 1)) (pb_1 (A := 30) (B := 1) (R := 2) nsq_2 (bz_mono (bz_neg hc) (by decide)) bz_0 bz_2 (bz_mono bx (by decide)) (bz_mono bz_0 (by decide)) (by decide)) ?_ ?_ ⟨-e / (2 * 1), by unfold QA QB; rw [if_pos b0, if_pos b0]; exact Rat.div_mul_cancel (by grind), .inl ⟨b0, rfl, rfl⟩⟩
      · unfold OnL; rw [a1, b0]; constructor <;> grind
      · unfold OnC
        have e2 : -e / (2 * 1) * 2 = -e := by have := Rat.div_mul_cancel (a := -e) (show (2 * 1 : Rat) ≠ 0 by grind); grind
        constructor
        · generalize -e / (2 * 1) = h at *
          grind
        · grind
    · k_allIn
      have hl : ∀ h w : Rat, OnL a b c (-c) 0 h w := fun h w => by unfold OnL; rw [a1, b0]; constructor <;> grind
      have hc' : ∀ h w : Rat, 1 * (h * h + w * w * C) + e * h + (-c * -c + d * -c + f) = 0 → (2 * 1 * h + e) * w = 0 → OnC d e f (-c) 0 h w C := fun h w z1 z2 => by unfold OnC; constructor <;> grind
      refine h2 (by grind) (-c) 0 m1 p1 (-c) 0 m2 p2 C (pb_1 (A := 100) (B := 4) (R := 90) hC (bz_mono (bz_neg hc) (by decide)) (bz_mono bz_0 (by decide)) (bz_mono bC (by omega)) (bz_mono q1 (by omega)) (bz_mono q2 (by omega)) (by decide)) (pb_1 (A := 100) (B := 4) (R := 90) hC (bz_mono (bz_neg hc) (by decide)) (bz_mono bz_0 (by decide)) (bz_mono bC (by omega)) (bz_mono q3 (by omega)) (bz_mono q4 (by omega)) (by decide)) (hl _ _) (hl _ _) (hc' _ _ hT.e1 hT.f1) (hc' _ _ hT.e2 hT.f2) (.inr ⟨⟨rfl, rfl⟩, hT.lt⟩) ⟨m1, p1, m2, p2, by unfold QA QB QC; rw [if_pos b0, if_pos b0, if_pos b0]; exact hT.ex, .inl ⟨b0, ⟨rfl, rfl, rfl, rfl⟩, rfl, rfl, rfl, rfl⟩⟩
  · rw [decide_eq_false b0]
    have bM : bz 24 (-a / b) := bz_over (bz_neg ha) hb b0
    have bN : bz 29 (-c / b) := bz_over (bz_neg hc) hb b0
    k_allIn
    obtain ⟨M, eM⟩ : ∃ M, M = -a / b := ⟨_, rfl⟩
    obtain ⟨N, eN⟩ : ∃ N, N = -c / b := ⟨_, rfl⟩
    have es := dsc_m (d := d) (e := e) (f := f) b0 eM eN
    rw [← eM] at bM ⊢
    rw [← eN] at bN ⊢
    have w1 : bz 55 (2 * (M * N)) := bz_mul bz_2 (bz_mul bM bN)
    have w2 : bz 29 (e * M) := bz_mul he bM
    have w3 : bz 91 (2 * (M * N) + d + e * M) := bz_add (bz_add w1 hd) w2
    have w4 : bz 58 (N * N) := bz_mul bN bN
    have w5 : bz 34 (e * N) := bz_mul he bN
    have w6 : bz 104 (N * N + e * N + f) := bz_add (bz_add w4 w5) hf
    have w7 : bz 50 (1 + M * M) := bz_add bz_1 (bz_mul bM bM)
    k_allIn
    refine sp_sum3 w1 hd w2 (by decide) ?_
    k_allIn
    refine sp_sum3 w4 w5 hf (by decide) ?_
    k_allIn
    obtain ⟨z0, z1, z2⟩ := sgn_of_mul (bb_pos b0) es
    refine both_roots_ok (ka := 50) (kb := 91) (kc := 104) (one_pos M) w7 w3 w6 (by decide) (fun z => ?_) (fun z bx => ?_) (fun z A B R m1 p1 m2 p2 C hk hC bC q1 q2 q3 q4 hT => ?_)
    · k_allIn
      exact h0 (z0.mp z)
    · placed_of0
      refine sp_by_fraction (m := 2) (k := 143) (l := 24) nsq_2 bz_2 bx (bz_mono bz_0 (by decide)) bM (by decide) (by decide) ?_
      placed_of0
      refine sp_plain ?_
      rw [← nrm_0 N 2]
      placed_of0
      refine sp_added_root (m := 2) (k := 170) nsq_2 bz_2 (bz_mono (bz_mul bx bM) (by decide)) (bz_mono (bz_mul bz_0 bM) (by decide)) (bz_mono bN (by decide)) (bz_mono bz_0 (by decide)) (by decide) (by decide) ?_
      placed_of0
      have e0 : (0 : Rat) * M + 0 = 0 := by grind
      have e3 : (0 : Rat) * M = 0 := by grind
      obtain ⟨x, ex⟩ : ∃ x, x = -(2 * (M * N) + d + e * M) / (2 * (1 + M * M)) := ⟨_, rfl⟩
      have ef : x * (2 * (1 + M * M)) = -(2 * (M * N) + d + e * M) := by rw [ex]; exact Rat.div_mul_cancel (by have := one_pos M; grind)
      rw [← ex] at bx ⊢
      rw [e0]
      have c1 := on_l (x := x) (y := 0) b0 eM eN
      have c2 : OnC d e f x 0 (x * M + N) (0 * M) 2 := on_c (by
        have f1 : (1 + M * M) * ((1 + M * M) * (x * x + 0 * 0 * 2) + (2 * (M * N) + d + e * M) * x + (N * N + e * N + f)) = 0 := by grind
        rcases Rat.mul_eq_zero.mp f1 with w | w
        · exact (one_pos M w).elim
        · exact w) (by grind)
      rw [e3] at c1 c2
      exact h1 (z1.mp z) x (x * M + N) (pb_1 (A := 143) (B := 1) (R := 2) nsq_2 bx bz_0 bz_2 (bz_mono (bz_add (bz_mul bx bM) bN) (by decide)) (bz_mono bz_0 (by decide)) (by decide)) c1 c2 ⟨x, by unfold QA QB; rw [if_neg b0, if_neg b0, ← eM, ← eN]; exact ef, .inr ⟨b0, rfl, by rw [← eM, ← eN]⟩⟩
    · placed_of0
      have hA : A ≤ 368 ∧ B ≤ 53 ∧ R ≤ 340 ∧ 16 * A + 12 * B + 3 * R ≤ 6000 := by omega
      refine sp_by_fraction (m := R) (k := A + B) (l := 24) hC bC (bz_mono q1 (by omega)) (bz_mono q2 (by omega)) bM (by omega) (by omega) ?_
      placed_of0
      refine sp_plain ?_
      rw [← nrm_0 N C]
      placed_of0
      refine sp_added_root (m := R) (k := A + B + 30) hC bC (bz_mono (bz_mul q1 bM) (by omega)) (bz_mono (bz_mul q2 bM) (by omega)) (bz_mono bN (by omega)) (bz_mono bz_0 (by omega)) (by omega) (by omega) ?_
      placed_of0
      refine sp_by_fraction (m := R) (k := A + B) (l := 24) hC bC (bz_mono q3 (by omega)) (bz_mono q4 (by omega)) bM (by omega) (by omega) ?_
      placed_of0
      refine sp_plain ?_
      rw [← nrm_0 N C]
      placed_of0
      refine sp_added_root (m := R) (k := A + B + 30) hC bC (bz_mono (bz_mul q3 bM) (by omega)) (bz_mono (bz_mul q4 bM) (by omega)) (bz_mono bN (by omega)) (bz_mono bz_0 (by omega)) (by omega) (by omega) ?_
      placed_of0
      rw [show p1 * M + 0 = p1 * M by grind, show p2 * M + 0 = p2 * M by grind]
      exact h2 (z2.mp z) m1 p1 (m1 * M + N) (p1 * M) m2 p2 (m2 * M + N) (p2 * M) C
        (pb_1 hC q1 q2 bC (bz_mono (bz_add (bz_mul q1 bM) bN) (by omega)) (bz_mono (bz_mul q2 bM) (by omega)) (by omega))
        (pb_1 hC q3 q4 bC (bz_mono (bz_add (bz_mul q3 bM) bN) (by omega)) (bz_mono (bz_mul q4 bM) (by omega)) (by omega))
        (on_l b0 eM eN) (on_l b0 eM eN) (on_c hT.e1 hT.f1) (on_c hT.e2 hT.f2) (.inl hT.lt) ⟨m1, p1, m2, p2, by unfold QA QB QC; rw [if_neg b0, if_neg b0, if_neg b0, ← eM, ← eN]; exact hT.ex, .inr ⟨b0, ⟨rfl, rfl, by rw [← eM, ← eN], by rw [← eM]⟩, rfl, rfl, by rw [← eM, ← eN], by rw [← eM]⟩⟩
end

section
variable {k l n ka kb kc kd ke kf : Nat} {a b c d e f g m p q r s t u v x y z p' q' r' s' C X Y M N : Rat} {Q : D → Prop}
theorem of_lines_ok (ha : bz 5 a) (hb : bz 5 b) (hc : bz 6 c) (hd : bz 5 d) (he : bz 5 e) (hf : bz 6 f) (h0 : a * e - b * d = 0 → Q (.list []))
    (h1 : a * e - b * d ≠ 0 → ∀ p r, PB p 0 r 0 2 → OnL a b c p 0 r 0 → OnL d e f p 0 r 0 → Q (.list [pn p 0 r 0 2])) : F_of_lines [ln a b c, ln d e f] Q := by
  unfold F_of_lines
  placed_of1
  rw [dr_ne0]
  by_cases l0 : a * e - b * d = 0
  · rw [decide_eq_true l0]
    placed_of0
    exact h0 l0
  · rw [decide_eq_false l0]
    have bX : bz 44 ((b * f - c * e) / (a * e - b * d)) := bz_mono (bz_over (k := 23) (l := 21) (bz_mono (by dl_puts) (by omega)) (bz_mono (by dl_puts) (by omega)) l0) (by decide)
    have bY : bz 44 ((c * d - a * f) / (a * e - b * d)) := bz_mono (bz_over (k := 23) (l := 21) (bz_mono (by dl_puts) (by omega)) (bz_mono (by dl_puts) (by omega)) l0) (by decide)
    placed_of1
    have eX : (b * f - c * e) / (a * e - b * d) * (a * e - b * d) = b * f - c * e := Rat.div_mul_cancel l0
    have eY : (c * d - a * f) / (a * e - b * d) * (a * e - b * d) = c * d - a * f := Rat.div_mul_cancel l0
    generalize (b * f - c * e) / (a * e - b * d) = x at *
    generalize (c * d - a * f) / (a * e - b * d) = y at *
    refine h1 l0 x y (pb_1 (A := 44) (B := 1) (R := 2) nsq_2 bX bz_0 bz_2 (bz_mono bY (by decide)) (bz_mono bz_0 (by decide)) (by decide)) ?_ ?_
    · refine ⟨?_, by grind⟩
      have z : (a * x + b * y + c) * (a * e - b * d) = 0 := by
        rw [show (a * x + b * y + c) * (a * e - b * d) = a * (x * (a * e - b * d)) + b * (y * (a * e - b * d)) + c * (a * e - b * d) by grind, eX, eY]
        grind
      rcases Rat.mul_eq_zero.mp z with z | z
      · exact z
      · exact (l0 z).elim
    · refine ⟨?_, by grind⟩
      have z : (d * x + e * y + f) * (a * e - b * d) = 0 := by
        rw [show (d * x + e * y + f) * (a * e - b * d) = d * (x * (a * e - b * d)) + e * (y * (a * e - b * d)) + f * (a * e - b * d) by grind, eX, eY]
        grind
      rcases Rat.mul_eq_zero.mp z with z | z
      · exact z
      · exact (l0 z).elim
theorem same_power_ok (hA : bz 6 (a - d)) (hB : bz 6 (b - e)) (hC : bz 11 (c - f)) (ha : bz 5 a) (hb : bz 5 b) (hc : bz 10 c) (hd : bz 5 d) (he : bz 5 e) (hf : bz 10 f) (h0 : a - d = 0 ∧ b - e = 0 → Q .none)
    (h1 : ∀ g, g = fst' (a - d) (b - e) → g ≠ 0 → Q (ln ((a - d) / g) ((b - e) / g) ((c - f) / g))) : F_same_power [ci a b c, ci d e f] Q := by
  unfold F_same_power
  placed_of1
  rw [dr_ne0]
  by_cases a0 : a - d = 0
  · rw [decide_eq_true a0]
    placed_of0
    rw [dr_ne0]
    by_cases b0 : b - e = 0
    · rw [decide_eq_true b0]
      placed_of0
      exact h0 ⟨a0, b0⟩
    · rw [decide_eq_false b0]
      placed_of1
      exact h1 _ (by unfold fst'; rw [if_pos a0]) b0
  · rw [decide_eq_false a0]
    placed_of0
    rw [dr_ne0, decide_eq_false a0]
    placed_of1
    exact h1 _ (by unfold fst'; rw [if_neg a0]) a0
/-! ### the order of points -/
theorem cmp_pn (hC : Nsq C) (h1 : bz ka p) (h2 : bz kb q) (h3 : bz kc C) (h4 : bz ka x) (h5 : bz kb y) (hk : 12 * ka + 10 * kb + 5 * kc < 7690) (h : Q (.int (sr (val p q C - val x y C)))) : F_compare [nrm p q C, nrm x y C] Q := by
  have C0 : 0 ≤ C := by have := hC.1; grind
  rw [nrm_eq, nrm_eq]
  refine sp_compare h1 h2 (bz_trd1 h3) h4 h5 (bz_trd1 h3) (by omega) ?_
  rw [cmp_val (trd_nonneg C0) (trd_nonneg C0), val_trd, val_trd]
  exact h
theorem pb_both (h : PB p q r s C) (h' : PB p' q' r' s' C) : Nsq C ∧ ∃ M P R : Nat, bz M p ∧ bz P q ∧ bz M r ∧ bz P s ∧ bz M p' ∧ bz P q' ∧ bz M r' ∧ bz P s' ∧ bz R C ∧ 12 * M + 10 * P + 5 * R < 7690 := by
  obtain ⟨hC, M, P, R, hm, hm1, hm2, hm3, bp, bq, br, bs, bC⟩ := h
  obtain ⟨_, M', P', R', hm', hm1', hm2', hm3', bp', bq', br', bs', bC'⟩ := h'
  refine ⟨hC, max M M' + 56, max P P' + 25, min R R', ?_⟩
  refine ⟨bz_mono bp (by omega), bz_mono bq (by omega), bz_mono br (by omega), bz_mono bs (by omega), bz_mono bp' (by omega), bz_mono bq' (by omega), bz_mono br' (by omega), bz_mono bs' (by omega), ?_, ?_⟩
  · rcases Nat.le_total R R' with h | h
    · rw [Nat.min_eq_left h]; exact bC
    · rw [Nat.min_eq_right h]; exact bC'
  · omega
theorem cmp_points_lt (hp : PB p q r s C) (hp' : PB p' q' r' s' C) (hl : Lt p q r s p' q' r' s' C) (h : Q (.int (-1))) : F_compare_points [pn p q r s C, pn p' q' r' s' C] Q := by
  obtain ⟨hC, M, P, R, b1, b2, b3, b4, b5, b6, b7, b8, b9, hk⟩ := pb_both hp hp'
  unfold F_compare_points
  placed_of0
  refine cmp_pn hC b1 b2 b9 b5 b6 hk ?_
  rcases hl with hl | ⟨⟨e1, e2⟩, hl⟩
  · rw [sr_neg (by grind)]
    placed_of0
    exact h
  · rw [e1, e2, show val p' q' C - val p' q' C = 0 by grind, sr_zero]
    placed_of0
    refine cmp_pn hC b3 b4 b9 b7 b8 hk ?_
    rw [sr_neg (by grind)]
    placed_of0
    exact h
theorem cmp_points_gt (hp : PB p q r s C) (hp' : PB p' q' r' s' C) (hl : Lt p q r s p' q' r' s' C) (h : Q (.int 1)) : F_compare_points [pn p' q' r' s' C, pn p q r s C] Q := by
  obtain ⟨hC, M, P, R, b1, b2, b3, b4, b5, b6, b7, b8, b9, hk⟩ := pb_both hp hp'
  unfold F_compare_points
  placed_of0
  refine cmp_pn hC b5 b6 b9 b1 b2 hk ?_
  rcases hl with hl | ⟨⟨e1, e2⟩, hl⟩
  · rw [sr_pos (by grind)]
    placed_of0
    exact h
  · rw [e1, e2, show val p' q' C - val p' q' C = 0 by grind, sr_zero]
    placed_of0
    refine cmp_pn hC b7 b8 b9 b3 b4 hk ?_
    rw [sr_pos (by grind)]
    placed_of0
    exact h
theorem in_order_0 (h : Q (.list [])) : F_in_order [.list []] Q := by
  unfold F_in_order
  placed_of0
  exact h
theorem in_order_1 (h : Q (.list [pn p q r s C])) : F_in_order [.list [pn p q r s C]] Q := by
  unfold F_in_order
  placed_of0
  refine w_kIns (by decide) (by decide) (by decide) rfl ?_
  placed_of0
  exact h
theorem in_order_2 (hp : PB p q r s C) (hp' : PB p' q' r' s' C) (hl : Lt p q r s p' q' r' s' C) (h : Q (.list [pn p q r s C, pn p' q' r' s' C])) : F_in_order [.list [pn p q r s C, pn p' q' r' s' C]] Q := by
  unfold F_in_order
  placed_of0
  refine w_kIns (ρ' := [.va (.list [pn p q r s C, pn p' q' r' s' C]), .ow [pn p q r s C], .va (pn p q r s C), .va (.int 0), .no]) (by decide) (by decide) (by decide) rfl ?_
  placed_of0
  refine cmp_points_lt hp hp' hl ?_
  placed_of0
  refine w_kIns (ρ' := [.va (.list [pn p q r s C, pn p' q' r' s' C]), .ow [pn p q r s C, pn p' q' r' s' C], .va (pn p' q' r' s' C), .va (.int 1), .no]) (by simp) (by decide) (by decide) rfl ?_
  placed_of0
  exact h
end

/-! ### how many points, how circles stand -/
def rad (a b c : Rat) : Rat := -a / 2 * (-a / 2) + -b / 2 * (-b / 2) - c
def gap2 (a b d e : Rat) : Rat := (-a / 2 - -d / 2) * (-a / 2 - -d / 2) + (-b / 2 - -e / 2) * (-b / 2 - -e / 2)
def rst (a b c d e f : Rat) : Rat := gap2 a b d e - (rad a b c + rad d e f)
def dcc (a b c d e f : Rat) : Rat := rst a b c d e f * rst a b c d e f - 4 * (rad a b c * rad d e f)
def kindw (a b c d e f : Rat) : Str :=
  if dcc a b c d e f < 0 then "cross"
  else if 0 < rst a b c d e f then (if dcc a b c d e f = 0 then "touch" else "apart")
  else if dcc a b c d e f = 0 then "touch within"
  else if rad a b c - rad d e f < 0 then "within" else "round"
section
variable {k l n ka kb kc kd ke kf : Nat} {a b c d e f g m p q r s t u v x y z p' q' r' s' C X Y M N : Rat} {Q : D → Prop}
theorem div_m2 (a : Rat) : a / -2 = -a / 2 := by grind
def cnt (z : Rat) : Int := if z < 0 then 2 else if z = 0 then 1 else 0
theorem eqv_ci (a b c d e f : Rat) : PyData.eqv (ci a b c) (ci d e f) = decide (a = d ∧ b = e ∧ c = f) := by
  show (((1 : Int) == 1) && (PyData.eqv (dr a) (dr d) && (PyData.eqv (dr b) (dr e) && (PyData.eqv (dr c) (dr f) && true)))) = _
  rw [eqv_dr, eqv_dr, eqv_dr, Bool.and_true, Bool.decide_and, Bool.decide_and]
  rfl
theorem eqv_ln (a b c d e f : Rat) : PyData.eqv (ln a b c) (ln d e f) = decide (a = d ∧ b = e ∧ c = f) := by
  show (((0 : Int) == 0) && (PyData.eqv (dr a) (dr d) && (PyData.eqv (dr b) (dr e) && (PyData.eqv (dr c) (dr f) && true)))) = _
  rw [eqv_dr, eqv_dr, eqv_dr, Bool.and_true, Bool.decide_and, Bool.decide_and]
  rfl
theorem touch_same (h : Q (.str "same")) : F_touch_kind [ci a b c, ci a b c] Q := by
  unfold F_touch_kind
  placed_of0
  rw [eqv_ci, decide_eq_true ⟨rfl, rfl, rfl⟩]
  placed_of0
  exact h
theorem touch_ok (h0 : ¬ (a = d ∧ b = e ∧ c = f)) (ha : bz 5 a) (hb : bz 5 b) (hc : bz 10 c) (hd : bz 5 d) (he : bz 5 e) (hf : bz 10 f) (h : Q (.str (kindw a b c d e f))) : F_touch_kind [ci a b c, ci d e f] Q := by
  have h1 : bz 7 (-a / 2) := bz_over (bz_neg ha) bz_2 (by decide)
  have h2 : bz 7 (-b / 2) := bz_over (bz_neg hb) bz_2 (by decide)
  have h3 : bz 7 (-d / 2) := bz_over (bz_neg hd) bz_2 (by decide)
  have h4 : bz 7 (-e / 2) := bz_over (bz_neg he) bz_2 (by decide)
  have hr : bz 40 (rad a b c) := bz_mono (by unfold rad; dl_puts) (by decide)
  have hs' : bz 40 (rad d e f) := bz_mono (by unfold rad; dl_puts) (by decide)
  have hga : bz 61 (gap2 a b d e) := bz_mono (by unfold gap2; dl_puts) (by decide)
  have hre : bz 143 (rst a b c d e f) := bz_mono (by unfold rst; dl_puts) (by decide)
  unfold F_touch_kind
  placed_of0
  rw [eqv_ci, decide_eq_false h0]
  placed_of0
  refine middle_ok (k := 5) ha hb (by decide) ?_
  placed_of0
  refine middle_ok (k := 5) hd he (by decide) ?_
  k_allIn
  rw [show (-a / 2 - -d / 2) * (-a / 2 - -d / 2) + (-b / 2 - -e / 2) * (-b / 2 - -e / 2) = gap2 a b d e from rfl]
  refine radius_ok (k := 10) (bz_mono ha (by decide)) (bz_mono hb (by decide)) hc (by decide) ?_
  rw [show -a / 2 * (-a / 2) + -b / 2 * (-b / 2) - c = rad a b c from rfl]
  placed_of0
  refine radius_ok (k := 10) (bz_mono hd (by decide)) (bz_mono he (by decide)) hf (by decide) ?_
  rw [show -d / 2 * (-d / 2) + -e / 2 * (-e / 2) - f = rad d e f from rfl]
  k_allIn
  rw [show gap2 a b d e - (rad a b c + rad d e f) = rst a b c d e f from rfl]
  k_allIn
  rw [lit41]
  k_allIn
  rw [show rst a b c d e f * rst a b c d e f - 4 * (rad a b c * rad d e f) = dcc a b c d e f from rfl]
  rw [sgn_lt0]
  unfold kindw at h
  by_cases c0 : dcc a b c d e f < 0
  · rw [if_pos c0] at h
    rw [decide_eq_true c0]
    placed_of0
    exact h
  rw [if_neg c0] at h
  rw [decide_eq_false c0]
  k_allIn
  rw [sgn_gt0]
  by_cases c1 : 0 < rst a b c d e f
  · rw [if_pos c1] at h
    rw [decide_eq_true c1]
    k_allIn
    rw [eqv_int, sgn_eq0]
    by_cases c2 : dcc a b c d e f = 0
    · rw [if_pos c2] at h
      rw [decide_eq_true c2]
      placed_of0
      exact h
    · rw [if_neg c2] at h
      rw [decide_eq_false c2]
      placed_of0
      exact h
  rw [if_neg c1] at h
  rw [decide_eq_false c1]
  k_allIn
  rw [eqv_int, sgn_eq0]
  by_cases c2 : dcc a b c d e f = 0
  · rw [if_pos c2] at h
    rw [decide_eq_true c2]
    placed_of0
    exact h
  rw [if_neg c2] at h
  rw [decide_eq_false c2]
  k_allIn
  rw [sgn_lt0]
  by_cases c3 : rad a b c - rad d e f < 0
  · rw [if_pos c3] at h
    rw [decide_eq_true c3]
    placed_of0
    exact h
  · rw [if_neg c3] at h
    rw [decide_eq_false c3]
    placed_of0
    exact h
end

/-! ### drawn curves -/
def Iz (B : Int) (q : Rat) : Prop := ∃ i : Int, q = (i : Rat) ∧ -B ≤ i ∧ i ≤ B
def LnOk (a b c : Rat) : Prop := (a = 1 ∨ a = 0 ∧ b = 1) ∧ bz 5 a ∧ bz 5 b ∧ bz 6 c
def CiOk (a b c : Rat) : Prop := Iz 24 a ∧ Iz 24 b ∧ Iz 1000 (4 * c) ∧ 0 < rad a b c
inductive Cv : D → Prop where
  | l {a b c : Rat} (h : LnOk a b c) : Cv (ln a b c)
  | c {a b c : Rat} (h : CiOk a b c) : Cv (ci a b c)
section
variable {k l n ka kb kc kd ke kf : Nat} {a b c d e f g m p q r s t u v x y z p' q' r' s' C X Y M N : Rat} {Q : D → Prop} {B B' : Int}
theorem Iz.bz (h : Iz B q) (hB : B < (2 ^ k : Nat)) (hk : 1 ≤ k) : bz k q := by
  obtain ⟨i, e, h1, h2⟩ := h
  rw [e]
  exact bz_int (sm_of (by omega) (by omega)) hk
theorem Iz.sub (h : Iz B p) (h' : Iz B' q) : Iz (B + B') (p - q) := by
  obtain ⟨i, e, h1, h2⟩ := h
  obtain ⟨j, e', h1', h2'⟩ := h'
  exact ⟨i - j, by rw [e, e', Rat.intCast_sub], by omega, by omega⟩
theorem quarter (h : Iz B (4 * q)) (hB : B < (2 ^ k : Nat)) (hk : 3 ≤ k) : Pl.bz k q := by
  obtain ⟨i, e, h1, h2⟩ := h
  have e2 : q = Rat.divInt i 4 := by
    rw [Rat.divInt_eq_div, ← e]
    show q = 4 * q / ((4 : Int) : Rat)
    rw [show ((4 : Int) : Rat) = 4 from rfl]
    grind
  rw [e2]
  exact bz_div (by decide) (sm_of (by omega) (by omega)) (by
    have := Nat.pow_le_pow_right (show 0 < 2 by decide) hk
    exact sm_of (by omega) (by omega))
theorem CiOk.bs (h : CiOk a b c) : bz 5 a ∧ bz 5 b ∧ bz 10 c := ⟨h.1.bz (by decide) (by decide), h.2.1.bz (by decide) (by decide), quarter h.2.2.1 (by decide) (by decide)⟩
theorem half_int (i : Int) : Rat.divInt i 1 = ((2 * i : Int) : Rat) / 2 ∧ Rat.divInt i 2 = (i : Rat) / 2 := by
  refine ⟨?_, ?_⟩
  · rw [Rat.divInt_eq_div, Rat.intCast_mul]
    show (i : Rat) / ((1 : Int) : Rat) = _
    rw [show ((1 : Int) : Rat) = 1 from rfl, show ((2 : Int) : Rat) = 2 from rfl]
    grind
  · rw [Rat.divInt_eq_div]
    rfl
/-- a drawn small part: a half of a number -/
def Hf (B : Int) (q : Rat) : Prop := ∃ i : Int, q = (i : Rat) / 2 ∧ -B ≤ i ∧ i ≤ B
theorem ciok_of {n m l : Int} (hx : x = (n : Rat) / 2) (hy : y = (m : Rat) / 2) (hr : r = (l : Rat) / 4) (n0 : -24 ≤ n) (n1 : n ≤ 24) (m0 : -8 ≤ m) (m1 : m ≤ 8) (l0 : 0 < l) (l1 : l ≤ 256) : CiOk (-2 * x) (-2 * y) (x * x + y * y - r) := by
  have hp : rad (-2 * x) (-2 * y) (x * x + y * y - r) = r := by unfold rad; grind
  have hnn : n * n ≤ 576 := by have := Int.mul_nonneg (show 0 ≤ 24 - n by omega) (show 0 ≤ 24 + n by omega); grind
  have hmm : m * m ≤ 64 := by have := Int.mul_nonneg (show 0 ≤ 8 - m by omega) (show 0 ≤ 8 + m by omega); grind
  have hn0 := isq n
  have hm0 := isq m
  refine ⟨⟨-n, ?_, by omega, by omega⟩, ⟨-m, ?_, by omega, by omega⟩, ⟨n * n + m * m - l, ?_, by omega, by omega⟩, ?_⟩
  · rw [hx, Rat.intCast_neg]; grind
  · rw [hy, Rat.intCast_neg]; grind
  · rw [hx, hy, hr, Rat.intCast_sub, Rat.intCast_add, Rat.intCast_mul, Rat.intCast_mul]; grind
  · rw [hp, hr]
    have : (0 : Rat) < (l : Rat) := by exact_mod_cast l0
    grind
theorem lnok_of (ha : bz 2 a) (hb : bz 2 b) (hc : bz 4 c) (h0 : ¬ (a = 0 ∧ b = 0)) : LnOk (a / fst' a b) (b / fst' a b) (c / fst' a b) := by
  have hf0 := fst_ne h0
  have hfb := bz_fst ha hb
  refine ⟨?_, bz_mono (bz_over ha hfb hf0) (by decide), bz_mono (bz_over hb hfb hf0) (by decide), bz_mono (bz_over hc hfb hf0) (by decide)⟩
  by_cases a0 : a = 0
  · refine .inr ⟨by rw [a0]; grind, ?_⟩
    have e : fst' a b = b := by unfold fst'; rw [if_pos a0]
    rw [e] at hf0 ⊢
    grind
  · refine .inl ?_
    have e : fst' a b = a := by unfold fst'; rw [if_neg a0]
    rw [e]
    grind
end

/-- on a curve, told for both kinds -/
inductive On : D → Rat → Rat → Rat → Rat → Rat → Prop where
  | l {a b c p q r s C : Rat} (h : LnOk a b c) (o : OnL a b c p q r s) : On (ln a b c) p q r s C
  | c {a b c p q r s C : Rat} (h : CiOk a b c) (o : OnC a b c p q r s C) : On (ci a b c) p q r s C
section
variable {k l n ka kb kc kd ke kf : Nat} {a b c d e f g m p q r s t u v x y z p' q' r' s' C X Y M N : Rat} {Q : D → Prop} {D1 D2 : D}
theorem sg1_00 (C : Rat) : sg1 0 0 C = 0 := by rw [sg1_0]; rfl
theorem pb_nsq (hp : PB p q r s C) : Nsq C := hp.1
/-! ### the law's look at what is found -/
abbrev cu (k : Int) (a b c : Rat) : D := .tuple [.int k, dr a, dr b, dr c]
theorem ne_int {i : Int} {R : D → Prop} (h : R (.bool false)) : fNe (.int i) (.int i) R := ⟨okD_int i, okD_int i, by rw [eqv_int, decide_eq_true rfl]; exact h⟩
theorem ne_str {z : Str} {R : D → Prop} (hz : PySem.PyData.strOk z = true) (h : R (.bool false)) : fNe (.str z) (.str z) R := ⟨okD_str hz, okD_str hz, by rw [eqv_str]; exact h⟩
end

section
variable {k l n ka kb kc kd ke kf : Nat} {a b c d e f g m p q r s t u v x y z p' q' r' s' C X Y M N : Rat} {Q : D → Prop} {D1 D2 : D}
theorem ln_up (h : LnOk a b c) : b = 0 → a = 1 := fun z => by
  rcases h.1 with h | ⟨_, h⟩
  · exact h
  · rw [z] at h; exact absurd h (by decide)
theorem sgn_case (z : Rat) : (z < 0 → z.num.sign = -1) ∧ (z = 0 → z.num.sign = 0) ∧ (0 < z → z.num.sign = 1) := ⟨fun h => sgn_neg h, fun h => by rw [h]; rfl, fun h => sgn_pos h⟩
/-! two circles -/
theorem dcc_dsc (g0 : g ≠ 0) : dcc a b c d e f = -(g * g * dsc ((a - d) / g) ((b - e) / g) ((c - f) / g) a b c) := by
  obtain ⟨A, eA⟩ : ∃ A, A = (a - d) / g := ⟨_, rfl⟩
  obtain ⟨B, eB⟩ : ∃ A, A = (b - e) / g := ⟨_, rfl⟩
  obtain ⟨C, eC⟩ : ∃ A, A = (c - f) / g := ⟨_, rfl⟩
  have h1 : a - d = A * g := by rw [eA]; exact (Rat.div_mul_cancel g0).symm
  have h2 : b - e = B * g := by rw [eB]; exact (Rat.div_mul_cancel g0).symm
  have h3 : c - f = C * g := by rw [eC]; exact (Rat.div_mul_cancel g0).symm
  rw [← eA, ← eB, ← eC]
  have h4 : d = a - A * g := by grind
  have h5 : e = b - B * g := by grind
  have h6 : f = c - C * g := by grind
  clear eA eB eC h1 h2 h3 g0
  unfold dcc dsc rst gap2 rad
  rw [h4, h5, h6]
  grind
theorem dcc_same (h1 : a - d = 0) (h2 : b - e = 0) : dcc a b c d e f = (c - f) * (c - f) := by
  have h4 : d = a := by grind
  have h5 : e = b := by grind
  unfold dcc rst gap2 rad
  rw [h4, h5]
  grind
theorem on_other (g0 : g ≠ 0) (h1 : OnL ((a - d) / g) ((b - e) / g) ((c - f) / g) p q r s) (h2 : OnC a b c p q r s C) : OnC d e f p q r s C := by
  obtain ⟨x1, x2⟩ := h1
  obtain ⟨y1, y2⟩ := h2
  have e1 : (a - d) * p + (b - e) * r + (c - f) = 0 := by
    have : ((a - d) / g * p + (b - e) / g * r + (c - f) / g) * g = (a - d) * p + (b - e) * r + (c - f) := by grind
    rw [x1] at this
    grind
  have e2 : (a - d) * q + (b - e) * s = 0 := by
    have : ((a - d) / g * q + (b - e) / g * s) * g = (a - d) * q + (b - e) * s := by grind
    rw [x2] at this
    grind
  exact ⟨by grind, by grind⟩
theorem sok_kind : PySem.PyData.strOk (kindw a b c d e f) = true := by
  unfold kindw
  repeat' split
  all_goals decide +kernel
end

section
variable {k l n ka kb kc kd ke kf : Nat} {a b c d e f g m p q r s t u v x y z p' q' r' s' C X Y M N : Rat} {Q : D → Prop} {D1 D2 : D}
/-! ### sides of points of fractions -/
theorem sg1_c0 (a b : Rat) : sg1 a b 0 = sgn a := by rw [sg1_def _ 0 rfl (by rw [if_pos rfl]), if_pos (.inr rfl)]
/-! ### through points -/
end

section
variable {k l n ka kb kc kd ke kf : Nat} {a b c d e f g m p q r s t u v x y z p' q' r' s' C X Y M N : Rat} {Q : D → Prop} {D1 D2 : D}
theorem eqv_pt (x y u v : Rat) : PyData.eqv (pt x y) (pt u v) = decide (x = u ∧ y = v) := by
  show (PyData.eqv (dr x) (dr u) && (PyData.eqv (dr y) (dr v) && true)) = _
  rw [eqv_dr, eqv_dr, Bool.and_true, Bool.decide_and]
theorem okD_lne : okD (.str "line") := okD_str (by decide +kernel)
theorem okD_cir : okD (.str "circle") := okD_str (by decide +kernel)
theorem line_has {n : Rat} (h0 : ¬ (y - v = 0 ∧ u - x = 0)) (hf : f ≠ 0) : (y - v) / f * x + (u - x) / f * y + -((y - v) * x + (u - x) * y) / f = 0 ∧ (y - v) / f * u + (u - x) / f * v + -((y - v) * x + (u - x) * y) / f = 0 := by
  constructor <;> grind
theorem line_left (hf : f ≠ 0) : ((y - v) / f * (x - (v - y)) + (u - x) / f * (y + (u - x)) + -((y - v) * x + (u - x) * y) / f) * f = (y - v) * (y - v) + (u - x) * (u - x) := by
  grind
theorem zz (t : Rat) (h : t * t ≤ 0) : t = 0 := by
  refine Classical.byContradiction fun z => ?_
  have := rsq_pos z
  grind
end

section
variable {Q : D → Prop}
/-! ### the draws -/
local macro_rules | `(tactic| pv_isi_meta) => `(tactic| (show (_ : Int) ≠ 0; decide))
end
local macro_rules | `(tactic| pv_isi_meta) => `(tactic| (show (_ : Int) ≠ 0; decide))

section
variable {k l n ka kb kc kd ke kf : Nat} {a b c d e f g m p q r s t u v x y z p' q' r' s' C X Y M N : Rat} {Q : D → Prop} {D1 D2 : D}
/-! ### bent curves -/
theorem is_fraction_22 (h : Q (.bool false)) : F_is_fraction [.tuple [.int 2, .int 2]] Q := by
  unfold F_is_fraction
  placed_of0
  refine sp_is_number _ ?_
  placed_of0
  refine sp_is_number _ ?_
  placed_of0
  refine sp_common ?_
  rw [show ((Int.gcd 2 2 : Nat) : Int) = 2 from rfl]
  placed_of0
  exact h
instance : Stp (fInT true (.int 2) (.tuple [.int 0, .int 1]) Q) (Q (.bool true)) := ⟨fun q => q⟩
theorem bent_2 (h : Q (.bool false)) : F_is_curve [.tuple [.int 2, dr a, dr b, dr c]] Q := by
  unfold F_is_curve
  placed_of0
  rw [show cutD [PyData.int 2, dr a, dr b, dr c] (some 1) none = [dr a, dr b, dr c] from rfl]
  placed_of1
  exact h
theorem bent_t (h : Q (.bool false)) : F_is_curve [.tuple [.bool true, dr a, dr b, dr c]] Q := by
  unfold F_is_curve
  placed_of0
  rw [show cutD [PyData.bool true, dr a, dr b, dr c] (some 1) none = [dr a, dr b, dr c] from rfl]
  placed_of1
  exact h
theorem bent_22 {i : Int} (h : Q (.bool false)) : F_is_curve [.tuple [.int i, .tuple [.int 2, .int 2], dr b, dr c]] Q := by
  unfold F_is_curve
  placed_of0
  rw [show cutD [PyData.int i, .tuple [.int 2, .int 2], dr b, dr c] (some 1) none = [.tuple [.int 2, .int 2], dr b, dr c] from rfl]
  placed_of0
  refine is_fraction_22 ?_
  placed_of1
  exact h
theorem bent_ln (h1 : a ≠ 1) (h2 : a ≠ 0 ∨ b ≠ 1) (h : Q (.bool false)) : F_is_curve [ln a b c] Q := by
  unfold F_is_curve
  placed_of0
  rw [show cutD [PyData.int 0, dr a, dr b, dr c] (some 1) none = [dr a, dr b, dr c] from rfl]
  placed_of1
  rw [lit11, eqv_dr, decide_eq_false h1]
  placed_of1
  rw [dr_ne0]
  by_cases a0 : a = 0
  · rw [decide_eq_true a0]
    placed_of1
    rw [lit11, eqv_dr, decide_eq_false (h2.resolve_left (fun z => z a0))]
    exact h
  · rw [decide_eq_false a0]
    placed_of1
    exact h
end

section
variable {k l n ka kb kc kd ke kf : Nat} {a b c d e f g m p q r s t u v x y z p' q' r' s' C X Y M N : Rat} {Q : D → Prop} {D1 D2 : D}
end

theorem forW_inv {g : MG} {b : MS} {nx bk ct : En → Prop} {rt : D → Prop} (I : En → Prop) (J : D → Prop) (hb : ∀ d ρ nx' ct', J d → I ρ → (∀ ρ', I ρ' → nx' ρ') → (∀ ρ', I ρ' → ct' ρ') → g d ρ fun ρ1 => b ρ1 ⟨nx', rt, nx, ct'⟩) (hn : ∀ ρ, I ρ → nx ρ) : ∀ (ds : List D) (ρ : En), I ρ → (∀ d ∈ ds, J d) → forW g b ds ρ ⟨nx, rt, bk, ct⟩
  | [], ρ, h, _ => hn ρ h
  | d :: ds, ρ, h, hJ => hb d ρ _ _ (hJ d List.mem_cons_self) h (fun ρ' h' => forW_inv I J hb hn ds ρ' h' fun x hx => hJ x (List.mem_cons_of_mem _ hx)) (fun ρ' h' => forW_inv I J hb hn ds ρ' h' fun x hx => hJ x (List.mem_cons_of_mem _ hx))
section
variable {k l n ka kb kc kd ke kf : Nat} {a b c d e f g m p q r s t u v x y z p' q' r' s' C X Y M N : Rat} {Q : D → Prop} {D1 D2 : D}
/-! ### turns, and the whole -/
/-- the point of a circle farthest left or right -/
def Trn (a b c : Rat) (d : D) : Prop := ∃ p q C, d = pn p q (-b / 2) 0 C ∧ PB p q (-b / 2) 0 C ∧ OnC a b c p q (-b / 2) 0 C
theorem pb_plain (hx : bz 20 x) (hy : bz 20 y) : PB x 0 y 0 2 := pb_1 (A := 20) (B := 1) (R := 2) nsq_2 hx bz_0 bz_2 (bz_mono hy (by decide)) (bz_mono bz_0 (by decide)) (by decide)
theorem one_root (h : CiOk a b c) (he : e = 1 ∨ e = -1) (hQ : ∀ p q C, Nsq C → Trn a b c (pn p q (-b / 2) 0 C) → Q (nrm p q C)) : F_tidy [dr (-a / 2), dr e, dr (rad a b c)] Q := by
  obtain ⟨b1, b2, b3⟩ := h.bs
  have h1 : bz 7 (-a / 2) := bz_over (bz_neg b1) bz_2 (by decide)
  have h2 : bz 7 (-b / 2) := bz_over (bz_neg b2) bz_2 (by decide)
  have hr : bz 40 (rad a b c) := bz_mono (by unfold rad; dl_puts) (by decide)
  have be : bz 1 e := by rcases he with e | e <;> rw [e]; exact bz_1; exact bz_neg bz_1
  have e2 : e * e = 1 := by rcases he with e | e <;> rw [e] <;> grind
  have hp := h.2.2.2
  have er : rad a b c = -a / 2 * (-a / 2) + -b / 2 * (-b / 2) - c := rfl
  generalize rad a b c = R at *
  rcases nsq_or hp with ⟨s, s0, es⟩ | hN
  · subst es
    have bs := bz_sqrt hr
    refine sp_tidy_sq s0 hr (bz_mono bs (by decide)) h1 be (by decide) ?_
    refine hQ (-a / 2 + e * s) 0 2 nsq_2 ⟨_, _, _, rfl, pb_1 (A := 40) (B := 1) (R := 2) nsq_2 (bz_mono (bz_add h1 (bz_mul be bs)) (by decide)) bz_0 bz_2 (bz_mono h2 (by decide)) (bz_mono bz_0 (by decide)) (by decide), ?_⟩
    have e3 : e * s * (e * s) = s * s := by grind
    unfold OnC
    constructor <;> grind
  · refine sp_tidy hN hr (by decide) ?_
    refine hQ (-a / 2) e R hN ⟨_, _, _, rfl, pb_1 (A := 40) (B := 1) (R := 40) hN (bz_mono h1 (by decide)) be hr (bz_mono h2 (by decide)) (bz_mono bz_0 (by decide)) (by decide), ?_⟩
    unfold OnC
    constructor <;> grind
theorem turns_ci (h : CiOk a b c) (hQ : ∀ d1 d2, Trn a b c d1 → Trn a b c d2 → Q (.list [d1, d2])) : F_turns_of [ci a b c] Q := by
  obtain ⟨b1, b2, b3⟩ := h.bs
  unfold F_turns_of
  placed_of0
  refine middle_ok (k := 5) b1 b2 (by decide) ?_
  placed_of0
  refine radius_ok (k := 10) (bz_mono b1 (by decide)) (bz_mono b2 (by decide)) b3 (by decide) ?_
  rw [show -a / 2 * (-a / 2) + -b / 2 * (-b / 2) - c = rad a b c from rfl]
  placed_of0
  rw [show PyData.tuple [.int (-1), .int 1] = dr (-1) from rfl]
  refine one_root h (.inr rfl) fun p q C hC h1 => ?_
  placed_of0
  refine sp_plain ?_
  placed_of0
  rw [lit11]
  refine one_root h (.inl rfl) fun p' q' C' hC' h2 => ?_
  placed_of0
  refine sp_plain ?_
  placed_of0
  exact hQ _ _ h1 h2
theorem turns_ln (hQ : Q (.list [])) : F_turns_of [ln a b c] Q := by
  unfold F_turns_of
  placed_of0
  exact hQ
theorem point_of_ok (h : Q (.tuple [rt x 0 0, rt y 0 0])) : F_point_of [dr x, dr y] Q := by
  unfold F_point_of
  placed_of0
  refine sp_plain ?_
  placed_of0
  refine sp_plain ?_
  placed_of0
  exact h
end

/-! ### pairs as they come: upper and lower -/
abbrev pr (n e : Int) : D := .tuple [.int n, .int e]
structure Rv (n e : Int) (q : Rat) (k : Nat) : Prop where
  ne : e ≠ 0
  eq : Rat.divInt n e = q
  sn : sm k n
  se : sm k e
section
variable {k l m ka kb kc kd ke kf : Nat} {a b c d e f p q : Rat} {Q : D → Prop} {n n' n'' i i' i'' : Int}
theorem rv_dr (h : bz k q) : Rv q.num (q.den : Nat) q k := ⟨den_ne q, Rat.num_divInt_den q, h.1, sm_den h⟩
theorem rv_lit (h : sm k n) (hk : 1 ≤ k) : Rv n 1 (n : Rat) k := ⟨by decide, by rw [Rat.divInt_eq_div]; show (n : Rat) / ((1 : Int) : Rat) = _; rw [show ((1 : Int) : Rat) = 1 from rfl]; grind, h, sm_mono (show sm 1 1 by unfold sm; decide) hk⟩
theorem rv_m1 : Rv (-1) 1 (-1) 1 := rv_lit (by unfold sm; decide) (by decide)
theorem rv_2 : Rv 2 1 2 2 := rv_lit (by unfold sm; decide) (by decide)
theorem rv_m2 : Rv (-2) 1 (-2) 2 := rv_lit (by unfold sm; decide) (by decide)
theorem rv_0 : Rv 0 1 0 1 := rv_lit (by unfold sm; decide) (by decide)
theorem rv_1 : Rv 1 1 1 1 := rv_lit (by unfold sm; decide) (by decide)
theorem Rv.pos (h : Rv n i p k) : (i : Rat) ≠ 0 := fun z => h.ne (by exact_mod_cast z)
theorem Rv.div (h : Rv n i p k) : (n : Rat) = p * (i : Rat) := by
  have h1 := h.pos
  have h2 := h.eq
  rw [Rat.divInt_eq_div] at h2
  rw [← h2]; grind
theorem rv_of {x : Rat} (h0 : i ≠ 0) (h : (n : Rat) = x * (i : Rat)) (h1 : sm k n) (h2 : sm k i) : Rv n i x k := ⟨h0, by
  have h3 : (i : Rat) ≠ 0 := fun z => h0 (by exact_mod_cast z)
  rw [Rat.divInt_eq_div, h]; grind, h1, h2⟩
theorem Rv.plus (h : Rv n i p k) (h' : Rv n' i' q l) : Rv (n * i' + n' * i) (i * i') (p + q) (k + l + 1) := by
  refine rv_of (Int.mul_ne_zero h.ne h'.ne) ?_ (sm_add (sm_mul h.sn h'.se) (by rw [Nat.add_comm]; exact sm_mul h'.sn h.se)) (sm_mono (sm_mul h.se h'.se) (by omega))
  have h1 := h.div
  have h2 := h'.div
  rw [Rat.intCast_add, Rat.intCast_mul, Rat.intCast_mul, Rat.intCast_mul, h1, h2]
  grind
theorem Rv.by' (h : Rv n i p k) (h' : Rv n' i' q l) : Rv (n * n') (i * i') (p * q) (k + l) := by
  refine rv_of (Int.mul_ne_zero h.ne h'.ne) ?_ (sm_mul h.sn h'.sn) (sm_mul h.se h'.se)
  have h1 := h.div
  have h2 := h'.div
  rw [Rat.intCast_mul, Rat.intCast_mul, h1, h2]
  grind
theorem rv_neg (h : Rv n i p k) : Rv (0 - n) i (-p) k := by
  have h1 := h.div
  refine rv_of h.ne ?_ (by rw [show 0 - n = -n by omega]; exact sm_neg h.sn) h.se
  rw [Rat.intCast_sub, h1, show ((0 : Int) : Rat) = 0 from rfl]; grind
theorem plus_ok (h : Rv n i p k) (h' : Rv n' i' q l) (hk : k + l < 900000) (hQ : ∀ x y, Rv x y (p + q) (k + l + 1) → Q (pr x y)) : F__law_plus [pr n i, pr n' i'] Q := by
  have h1 := cmul h.sn h'.se (by omega)
  have h2 := cmul h'.sn h.se (by omega)
  have h3 := cmul h.se h'.se (by omega)
  unfold F__law_plus
  kpc_turns
  exact ⟨h1, h2, h3, by decide, hQ _ _ (h.plus h')⟩
local macro_rules | `(tactic| pv_meta) => `(tactic| first | (with_reducible assumption) | exact rv_m1 | exact rv_2 | exact rv_0 | exact rv_1 | exact rv_m2 | ((with_reducible apply rv_dr); (dl_puts)))
local macro_rules | `(tactic| dl_keeps) => `(tactic| (with_reducible apply plus_ok; (focus pv_meta); (focus pv_meta); (focus omega); intro _ _ _))
theorem by_ok (h : Rv n i p k) (h' : Rv n' i' q l) (hk : k + l < 900000) (hQ : ∀ x y, Rv x y (p * q) (k + l) → Q (pr x y)) : F__law_by [pr n i, pr n' i'] Q := by
  have h1 := cmul h.sn h'.sn (by omega)
  have h3 := cmul h.se h'.se (by omega)
  unfold F__law_by
  kpc_turns
  exact ⟨h1, h3, by decide, hQ _ _ (h.by' h')⟩
local macro_rules | `(tactic| dl_keeps) => `(tactic| (with_reducible apply by_ok; (focus pv_meta); (focus pv_meta); (focus omega); intro _ _ _))
theorem rv_sgn (h : Rv n i p k) : (if 0 < n * i then (1 : Int) else 0) - (if n * i < 0 then 1 else 0) = sgn p := by
  have h1 := h.div
  have h2 : ((n * i : Int) : Rat) = p * ((i : Rat) * (i : Rat)) := by rw [Rat.intCast_mul, h1]; grind
  have h3 : 0 < (i : Rat) * (i : Rat) := rsq_pos h.pos
  have h4 : (0 < n * i) ↔ 0 < ((n * i : Int) : Rat) := by exact_mod_cast Iff.rfl
  have h5 : (n * i < 0) ↔ ((n * i : Int) : Rat) < 0 := by exact_mod_cast Iff.rfl
  have h6 := mul_pos_iff (x := p) h3
  have h7 := mul_pos_iff (x := -p) h3
  rw [h2] at h4 h5
  have h8 : -p * ((i : Rat) * (i : Rat)) = -(p * ((i : Rat) * (i : Rat))) := by grind
  rw [h8] at h7
  rcases Rl.lt_tri (Rl.q p) 0 with g | g | g
  · rw [← Rl.q_zero, Rl.q_lt] at g
    rw [sgn_neg g, if_neg (by rw [h4]; intro z; grind), if_pos (by rw [h5]; grind)]; rfl
  · rw [← Rl.q_zero, Rl.q_inj] at g
    rw [g, if_neg (by rw [h4, g]; grind), if_neg (by rw [h5, g]; grind)]; rfl
  · rw [← Rl.q_zero, Rl.q_lt] at g
    rw [sgn_pos g, if_pos (by rw [h4]; grind), if_neg (by rw [h5]; intro z; grind)]; rfl
theorem side_ok (h : Rv n i p k) (hk : k < 400000) (hQ : Q (.int (sgn p))) : F__law_side [pr n i] Q := by
  have h1 := cmul h.sn h.se (by omega)
  rw [← rv_sgn h] at hQ
  unfold F__law_side
  kpc_turns
  refine ⟨h1, ?_⟩
  generalize n * i = z at *
  rcases Int.lt_trichotomy z 0 with g | g | g
  · rw [if_neg (by omega), if_pos g] at hQ ⊢
    exact hQ
  · rw [if_neg (by omega), if_neg (by omega)] at hQ ⊢
    exact hQ
  · rw [if_pos g, if_neg (by omega)] at hQ ⊢
    exact hQ
local macro_rules | `(tactic| dl_keeps) => `(tactic| (with_reducible apply side_ok; (focus pv_meta); (focus omega)))
/-! ### the side of a number with a root, and of a gap -/
theorem rv_zero (h : Rv n i p k) : n = 0 ↔ p = 0 := by
  have h1 := h.div
  have h2 := h.pos
  constructor
  · intro z
    rw [z] at h1
    have : ((0 : Int) : Rat) = 0 := rfl
    rw [this] at h1
    rcases Rat.mul_eq_zero.mp h1.symm with g | g
    · exact g
    · exact absurd g h2
  · intro z
    rw [z, Rat.zero_mul] at h1
    exact_mod_cast h1
theorem rooted_ok (hp : Rv n i p k) (hq : Rv n' i' q l) (hc : Rv n'' i'' c m) (hk : 2 * k + 2 * l + m < 390000) (hQ : Q (.int (sg1 p q c))) : F__law_rooted [pr n i, pr n' i', pr n'' i''] Q := by
  unfold F__law_rooted
  placed_of1
  rw [eqv_int]
  have hz := rv_zero hc
  by_cases hc0 : c = 0
  · have e := sg1_def (a := p) (b := q) (c := c) _ 0 rfl (by rw [if_pos hc0])
    rw [if_pos (.inr rfl)] at e
    rw [decide_eq_true (hz.mpr hc0)]
    placed_of0
    rw [eqv_int]
    by_cases h1 : sgn p = 0
    · rw [decide_eq_true h1]
      placed_of0
      rw [← e]; exact hQ
    · rw [decide_eq_false h1]
      placed_of0
      rw [← e]; exact hQ
  have e := sg1_def (a := p) (b := q) (c := c) _ _ rfl (by rw [if_neg hc0])
  rw [decide_eq_false (fun z => hc0 (hz.mp z))]
  placed_of1
  generalize ht : sgn q = t at *
  have hss : sm 1 (sgn p) := sm_sgn _
  generalize hs' : sgn p = s at *
  rw [eqv_int]
  by_cases h1 : s = t
  · rw [decide_eq_true h1]
    placed_of0
    rw [if_pos (.inl h1)] at e
    rw [← e]; exact hQ
  rw [decide_eq_false h1]
  placed_of0
  rw [eqv_int]
  by_cases h2 : t = 0
  · rw [decide_eq_true h2]
    placed_of0
    rw [if_pos (.inr h2)] at e
    rw [← e]; exact hQ
  rw [decide_eq_false h2]
  rw [if_neg (by omega)] at e
  placed_of0
  rw [eqv_int]
  by_cases h3 : s = 0
  · rw [decide_eq_true h3]
    placed_of0
    rw [if_pos h3] at e
    rw [← e]; exact hQ
  rw [decide_eq_false h3]
  rw [if_neg h3] at e
  placed_of1
  · refine cmul hss (sm_sgn _) (by decide)
  rw [show p * p + -1 * (q * q * c) = p * p - q * q * c by grind, ← e]
  exact hQ
local macro_rules | `(tactic| dl_keeps) => `(tactic| (with_reducible apply rooted_ok; (focus pv_meta); (focus pv_meta); (focus pv_meta); (focus omega)))
end
local macro_rules | `(tactic| pv_meta) => `(tactic| first | (with_reducible assumption) | exact rv_m1 | exact rv_2 | exact rv_0 | exact rv_1 | exact rv_m2 | ((with_reducible apply rv_dr); (dl_puts)))
local macro_rules | `(tactic| dl_keeps) => `(tactic| (with_reducible apply plus_ok; (focus pv_meta); (focus pv_meta); (focus omega); intro _ _ _))
local macro_rules | `(tactic| dl_keeps) => `(tactic| (with_reducible apply by_ok; (focus pv_meta); (focus pv_meta); (focus omega); intro _ _ _))
local macro_rules | `(tactic| dl_keeps) => `(tactic| (with_reducible apply side_ok; (focus pv_meta); (focus omega)))
local macro_rules | `(tactic| dl_keeps) => `(tactic| (with_reducible apply rooted_ok; (focus pv_meta); (focus pv_meta); (focus pv_meta); (focus omega)))

section
variable {k l m ka kb kc kd ke kf : Nat} {a b c d e f p q : Rat} {Q : D → Prop} {n i n1 i1 n2 i2 n3 i3 n4 i4 n5 i5 : Int}
theorem sgn_tri (p : Rat) : sgn p = 1 ∨ sgn p = 0 ∨ sgn p = -1 := by
  unfold sgn
  rcases Int.lt_trichotomy p.num 0 with h | h | h
  · exact .inr (.inr (Int.sign_eq_neg_one_of_neg h))
  · rw [h]; exact .inr (.inl rfl)
  · exact .inl (Int.sign_eq_one_of_pos h)
theorem sgn_0 (h : sgn p = 0) : p = 0 := by
  unfold sgn at h
  exact Rat.num_eq_zero.mp (Int.sign_eq_zero_iff_zero.mp h)
theorem sg1_tri (a b c : Rat) : sg1 a b c = 1 ∨ sg1 a b c = 0 ∨ sg1 a b c = -1 := by
  rw [sg1_def _ _ rfl rfl]
  have h1 := sgn_tri a
  have h2 : (if c = 0 then 0 else sgn b) = 1 ∨ (if c = 0 then 0 else sgn b) = 0 ∨ (if c = 0 then 0 else sgn b) = -1 := by
    by_cases h : c = 0
    · rw [if_pos h]; exact .inr (.inl rfl)
    · rw [if_neg h]; exact sgn_tri b
  have h3 := sgn_tri (a * a - b * b * c)
  generalize sgn a = x at *
  generalize (if c = 0 then 0 else sgn b) = y at *
  generalize sgn (a * a - b * b * c) = z at *
  split
  · exact h1
  split
  · exact h2
  · rcases h1 with h | h | h <;> rcases h3 with g | g | g <;> rw [h, g] <;> decide
theorem sg1_0' (b c : Rat) : sg1 0 b c = if c = 0 then 0 else sgn b := by
  rw [sg1_def (a := 0) (b := b) (c := c) 0 _ rfl rfl]
  generalize (if c = 0 then 0 else sgn b) = y
  by_cases h : y = 0
  · rw [if_pos (.inr h)]; exact h.symm
  · rw [if_neg (by omega), if_pos rfl]
theorem gap_cmp {L R : Int} (A : Rat) (hL : L = sg1 A b c) (hR : R = sg1 0 e f) : sg2 A b c (-e) f = if L ≠ R ∨ L = 0 then (if L ≠ 0 then L else 0 - R) else L * sg1 (A * A + b * b * c + -1 * (e * e * f)) (2 * (A * b)) c := by
  have t1 := sg1_tri A b c
  rw [← hL] at t1
  rw [sg1_0'] at hR
  by_cases h : -e = 0 ∨ f = 0
  · rw [sg2_0 h, ← hL]
    have : R = 0 := by
      rw [hR]
      rcases h with h | h
      · rw [show e = 0 by grind]; split <;> rfl
      · rw [if_pos h]
    rw [this]
    split
    · split <;> omega
    · rename_i h2
      exact absurd h2 (by omega)
  rw [sg2_1 h, ← hL, sgn_neg']
  rw [if_neg (fun z => h (.inr z))] at hR
  have t2 := sgn_tri e
  have t3 : sgn e ≠ 0 := fun z => h (.inl (by rw [sgn_0 z]; rfl))
  rw [← hR] at t2 t3 ⊢
  rw [show A * A + b * b * c + -1 * (e * e * f) = A * A + b * b * c - -e * -e * f by grind]
  split
  · split
    · split <;> omega
    · rename_i h1 h2
      omega
  · split
    · split <;> omega
    · rfl
theorem gap_ok (ha : Rv n i a ka) (hb : Rv n1 i1 b kb) (hc : Rv n2 i2 c kc) (hd : Rv n3 i3 d kd) (he : Rv n4 i4 e ke) (hf : Rv n5 i5 f kf) (hk : 10 * ka + 10 * kb + 10 * kc + 10 * kd + 10 * ke + 10 * kf < 300000) (hQ : Q (.int (cmp a b c d e f))) : F__law_gap [.tuple [pr n i, pr n1 i1, pr n2 i2], .tuple [pr n3 i3, pr n4 i4, pr n5 i5]] Q := by
  unfold F__law_gap
  placed_of1
  rw [show a + -1 * d = a - d by grind]
  have e0 := gap_cmp (b := b) (c := c) (e := e) (f := f) (a - d) rfl rfl
  unfold cmp at hQ
  rw [e0] at hQ
  have s1 : sm 2 (sg1 (a - d) b c) := sm_sg1
  generalize sg1 (a - d) b c = L at *
  generalize sg1 0 e f = R at *
  rw [eqv_int]
  by_cases h1 : L = R
  · rw [decide_eq_true h1]
    placed_of0
    rw [eqv_int]
    by_cases h2 : L = 0
    · rw [if_pos (.inr h2), if_neg (by omega)] at hQ
      rw [decide_eq_true h2]
      placed_of0
      rw [eqv_int, decide_eq_true h2]
      placed_of0
      exact hQ
    · rw [if_neg (by omega)] at hQ
      rw [decide_eq_false h2]
      placed_of1
      · exact cmul s1 sm_sg1 (by decide)
      rw [show a + -1 * d = a - d by grind]
      exact hQ
  · rw [if_pos (.inl h1)] at hQ
    rw [decide_eq_false h1]
    placed_of0
    rw [eqv_int]
    by_cases h2 : L = 0
    · rw [if_neg (by omega)] at hQ
      rw [decide_eq_true h2]
      placed_of0
      exact hQ
    · rw [if_pos (by omega)] at hQ
      rw [decide_eq_false h2]
      placed_of0
      exact hQ
local macro_rules | `(tactic| dl_keeps) => `(tactic| (with_reducible apply gap_ok; (focus pv_meta); (focus pv_meta); (focus pv_meta); (focus pv_meta); (focus pv_meta); (focus pv_meta); (focus omega)))
end
local macro_rules | `(tactic| dl_keeps) => `(tactic| (with_reducible apply gap_ok; (focus pv_meta); (focus pv_meta); (focus pv_meta); (focus pv_meta); (focus pv_meta); (focus pv_meta); (focus omega)))

section
variable {k l m ka kb kc kd ke kf : Nat} {a b c d e f p q r s C : Rat} {Q : D → Prop} {n i n1 i1 n2 i2 n3 i3 n4 i4 n5 i5 : Int}
/-! ### the side of a point to a curve, by the law's own sums -/
theorem trd_num (hC : Nsq C) (q : Rat) : (trd q C).num = 0 ↔ q = 0 := by
  have h := hC.1
  unfold trd
  by_cases h0 : q = 0
  · rw [if_pos h0]; exact ⟨fun _ => h0, fun _ => rfl⟩
  · rw [if_neg h0]
    exact ⟨fun z => by have := Rat.num_eq_zero.mp z; grind, fun z => absurd z h0⟩
theorem trd_same (hq : q ≠ 0) : trd q C = C := by unfold trd; rw [if_neg hq]
theorem sg1_pick {A X : Rat} (hX : s = 0 → X = 0) : sg1 A X (trd s C) = sg1 A X C := by
  by_cases h : s = 0
  · rw [hX h, sg1_0, sg1_0]
  · rw [trd_same h]
theorem trd_mul2 (h0 : q = 0) (s C : Rat) : (q * q + s * s) * trd s C = (q * q + s * s) * C := by
  by_cases h : s = 0
  · rw [h0, h]; grind
  · rw [trd_same h]
theorem lsign_ln (hC : Nsq C) (h1 : bz k p) (h2 : bz k q) (h3 : bz k r) (h4 : bz k s) (h5 : bz m C) (ha : bz l a) (hb : bz l b) (hc : bz l c) (hk : k + l + m < 10000) (h : Q (.int (sg1 (a * p + b * r + c) (a * q + b * s) C))) : F__law_sign [ln a b c, pn p q r s C] Q := by
  have h6 := bz_trd1 (b := q) h5
  have h7 := bz_trd1 (b := s) h5
  unfold F__law_sign
  placed_of0
  rw [eqv_int]
  have hn := trd_num hC q
  by_cases h0 : q = 0
  · rw [decide_eq_true (hn.mpr h0)]
    placed_of1
    rw [sg1_pick (fun z => by rw [h0, z]; grind), show a * p + (b * r + c) = a * p + b * r + c by grind]
    exact h
  · rw [decide_eq_false (fun z => h0 (hn.mp z))]
    placed_of1
    rw [trd_same h0, show a * p + (b * r + c) = a * p + b * r + c by grind]
    exact h
theorem lsign_ci (hC : Nsq C) (h1 : bz k p) (h2 : bz k q) (h3 : bz k r) (h4 : bz k s) (h5 : bz m C) (ha : bz l a) (hb : bz l b) (hc : bz l c) (hk : k + l + m < 10000) (h : Q (.int (sg1 (a * p + b * r + c + (p * p + r * r + (q * q + s * s) * C)) (a * q + b * s + 2 * (p * q + r * s)) C))) : F__law_sign [ci a b c, pn p q r s C] Q := by
  have h6 := bz_trd1 (b := q) h5
  have h7 := bz_trd1 (b := s) h5
  unfold F__law_sign
  placed_of0
  rw [eqv_int]
  have hn := trd_num hC q
  by_cases h0 : q = 0
  · rw [decide_eq_true (hn.mpr h0)]
    placed_of1
    rw [sg1_pick (fun z => by rw [h0, z]; grind), trd_mul2 h0, show a * p + (b * r + c) + (p * p + r * r + (q * q + s * s) * C) = a * p + b * r + c + (p * p + r * r + (q * q + s * s) * C) by grind]
    exact h
  · rw [decide_eq_false (fun z => h0 (hn.mp z))]
    placed_of1
    rw [trd_same h0, show a * p + (b * r + c) + (p * p + r * r + (q * q + s * s) * C) = a * p + b * r + c + (p * p + r * r + (q * q + s * s) * C) by grind]
    exact h
end

section
variable {k l m ka kb kc kd ke kf : Nat} {a b c d e f p q r s C : Rat} {Q : D → Prop} {n i n1 i1 n2 i2 n3 i3 n4 i4 n5 i5 : Int}
/-! ### fractions -/
theorem rv_half : Rv 1 2 (1 / 2) 2 := ⟨by decide, by decide +kernel, by unfold sm; decide, by unfold sm; decide⟩
local macro_rules | `(tactic| pv_meta) => `(tactic| exact rv_half)
theorem rv_fun (h : Rv n i p k) (h' : Rv n i q l) : p = q := h.eq.symm.trans h'.eq
theorem Rv.over (h : Rv n i p k) (h' : Rv n1 i1 q l) (h0 : q ≠ 0) : Rv (n * i1) (i * n1) (p / q) (k + l) := by
  have h1 := h.div
  have h2 := h'.div
  have h3 : n1 ≠ 0 := fun z => h0 ((rv_zero h').mp z)
  refine rv_of (Int.mul_ne_zero h.ne h3) ?_ (sm_mul h.sn h'.se) (sm_mul h.se h'.sn)
  rw [Rat.intCast_mul, Rat.intCast_mul, h1, h2]
  grind
theorem same_ok (h1 : bz l p) (h : Rv n i q k) (e : p = q) (hk : k + l < 900000) (hQ : Q (.bool true)) : F__law_same [dr p, pr n i] Q := by
  have h2 := cmul h1.1 h.se (by omega)
  have h3 := cmul h.sn (sm_den h1) (by omega)
  unfold F__law_same
  kpc_turns
  refine ⟨h2, h3, ⟨okD_int _, okD_int _, ?_⟩⟩
  rw [eqv_int, decide_eq_true]
  · exact hQ
  have g1 := h.div
  rw [← e] at g1
  have g2 := rat_eq p
  have : (((p.num * i : Int)) : Rat) = ((n * (p.den : Int) : Int) : Rat) := by
    rw [Rat.intCast_mul, Rat.intCast_mul, g1]
    rw [show (((p.den : Nat) : Int) : Rat) = ((p.den : Nat) : Rat) from rfl]
    rw [g2]
    grind
  exact_mod_cast this
theorem frac_rv (h : Rv n i q k) (hk : k < 9000) (hQ : bz k q → Q (dr q)) : F_fraction [.int n, .int i] Q := by
  refine fraction_ok h.ne h.se hk ?_
  rw [h.eq]
  refine hQ ?_
  rw [← h.eq]
  exact bz_div h.ne h.sn h.se
theorem frac_of (h0 : 0 ≤ n) (h1 : n < 13) (h2 : 0 ≤ i) (h3 : i < 5) : ∃ q, Rv (n - 6) (1 + i) q 4 := ⟨_, by omega, rfl, sm_of (by omega) (by omega), sm_of (by omega) (by omega)⟩
local macro_rules | `(tactic| dl_keeps) => `(tactic| (with_reducible apply same_ok; (focus pv_meta); (focus pv_meta); (focus grind); (focus omega)))
theorem less_side (a b : Rat) : decide (a.num * (b.den : Nat) < b.num * (a.den : Nat)) = decide (sgn (a + -1 * b) < 0) := by
  have h := sgn_lt0 (a + -1 * b)
  rw [show (a + -1 * b).num.sign = sgn (a + -1 * b) from rfl] at h
  rw [h]
  refine decide_eq_decide.mpr ?_
  rw [← Rat.lt_iff]
  constructor <;> intro z <;> grind
theorem fl_sm {x : Int} (c1 : x * (1 + i) ≤ n - 6) (c2 : n - 6 < (x + 1) * (1 + i)) (n0 : 0 ≤ n) (n1 : n < 13) (i0 : 0 ≤ i) (i1 : i < 5) : sm 5 x := by
  have h : i = 0 ∨ i = 1 ∨ i = 2 ∨ i = 3 ∨ i = 4 := by omega
  rcases h with rfl | rfl | rfl | rfl | rfl <;> exact sm_of (by omega) (by omega)
theorem bf_l12 (q : Q (.bool false)) : F_is_fraction [.list [.int 1, .int 2]] Q := by
  unfold F_is_fraction; placed_of0; exact q
theorem bf_o1 (q : Q (.bool false)) : F_is_fraction [.tuple [.int 1]] Q := by
  unfold F_is_fraction; placed_of0; exact q
theorem fractions_ok (h : Q (.bool true)) : F__law_fractions [wD] Q := by
  unfold F__law_fractions
  placed_of0
  refine next_ok (by decide) fun n n0 n1 => ?_
  placed_of0
  refine next_ok (by decide) fun i i0 i1 => ?_
  placed_of0
  refine next_ok (by decide) fun m m0 m1 => ?_
  placed_of0
  refine next_ok (by decide) fun j j0 j1 => ?_
  placed_of0
  obtain ⟨a, ha⟩ := frac_of n0 n1 i0 i1
  obtain ⟨b, hb⟩ := frac_of m0 m1 j0 j1
  refine frac_rv ha (by decide) fun ba => ?_
  placed_of0
  refine frac_rv hb (by decide) fun bb => ?_
  placed_of1
  refine w_catO rfl ?_
  placed_of1
  refine sp_sum3 ba bb ba (by omega) ?_
  placed_of1
  simp only [List.set_cons_succ, List.set_cons_zero, List.cons_append, List.nil_append]
  placed_of1
  have b1 : bz 6 (a / 2) := bz_over ba bz_2 (by decide)
  have b2 : bz 11 ((a + b) / 2) := bz_over (bz_add ba bb) bz_2 (by decide)
  have r1 := rv_neg ha
  have r4 : Rv 4 1 4 3 := rv_lit (by unfold sm; decide) (by decide)
  rw [show ((4 : Int) : Rat) = 4 from rfl]
  rw [eqv_int]
  have hz := rv_zero hb
  have fl := rat_floor a
  have e1 := ha.div
  have p1 : 0 < ((1 + i : Int) : Rat) := by exact_mod_cast (show 0 < 1 + i by omega)
  have c1 : a.num.fdiv (a.den : Nat) * (1 + i) ≤ n - 6 := by
    have g : ((a.num.fdiv (a.den : Nat) * (1 + i) : Int) : Rat) ≤ ((n - 6 : Int) : Rat) := by
      rw [Rat.intCast_mul, e1]
      exact Rat.mul_le_mul_of_nonneg_right fl.1 (Rat.le_of_lt p1)
    exact_mod_cast g
  have c2 : n - 6 < (a.num.fdiv (a.den : Nat) + 1) * (1 + i) := by
    have g : ((n - 6 : Int) : Rat) < (((a.num.fdiv (a.den : Nat) + 1) * (1 + i) : Int) : Rat) := by
      rw [Rat.intCast_mul, e1]
      exact Rat.mul_lt_mul_of_pos_right fl.2 p1
    exact_mod_cast g
  have c3 := fl_sm c1 c2 n0 n1 i0 i1
  rcases Classical.em (b = 0) with h0 | h0
  case' inl h0 =>
    (rw [decide_eq_true (hz.mpr h0)]
     placed_of1)
  case' inr h0 =>
    (have r5 := ha.over hb h0
     have b5 := bz_over ba bb h0
     rw [decide_eq_false (fun z => h0 (hz.mp z))]
     placed_of1
     · exact cmul ha.sn hb.se (by decide)
     placed_of1
     · exact cmul ha.se hb.sn (by decide)
     placed_of1)
  all_goals
    (rw [show a.num.sign = sgn a from rfl, eqv_int, decide_eq_true rfl]
     placed_of1
     rw [less_side, eqv_bool]
     placed_of1
     unfold eChain
     placed_of1
     · exact cmul c3 ha.se (by decide)
     placed_of1
     show if decide _ = true then _ else _
     rw [decide_eq_true c1, if_pos rfl]
     placed_of1
     · exact cmul (sm_add c3 (sm_mono (show sm 1 1 by unfold sm; decide) (by decide))) ha.se (by decide)
     placed_of1
     rw [decide_eq_true c2]
     placed_of1
     refine bf_24 ?_
     placed_of1
     refine bf_10 ?_
     placed_of1
     refine bf_1m ?_
     placed_of1
     refine bf_l12 ?_
     placed_of1
     refine bf_none ?_
     placed_of1
     refine bf_t1 ?_
     placed_of1
     refine bf_o1 ?_
     placed_of1
     exact h)
end
local macro_rules | `(tactic| pv_meta) => `(tactic| exact rv_half)
local macro_rules | `(tactic| dl_keeps) => `(tactic| (with_reducible apply same_ok; (focus pv_meta); (focus pv_meta); (focus grind); (focus omega)))

/-! ### digits as a text, read again -/
def idxs (c : Nat) : List Nat → Nat → List Nat
  | [], _ => []
  | a :: l, k => if a = c then k :: idxs c l (k + 1) else idxs c l (k + 1)
theorem sub_one (x : Str) (c k : Nat) (a : Nat) (l : List Nat) (h : x.cps.toList.drop k = a :: l) : Builtin.Str.subAt x ⟨#[c]⟩ k = decide (a = c) := by
  unfold Builtin.Str.subAt
  have e : (x.cps.extract k (k + (⟨#[c]⟩ : Str).length)).toList = [a] := by
    rw [Array.toList_extract]
    show ((x.cps.toList.drop k).take (k + 1 - k)) = [a]
    rw [h, show k + 1 - k = 1 by omega]; rfl
  have e2 : x.cps.extract k (k + (⟨#[c]⟩ : Str).length) = #[a] := by
    apply Array.toList_inj.mp
    rw [e]
  rw [e2]
  show (#[a] == #[c]) = _
  by_cases g : a = c
  · rw [g]; simp
  · simp [g]
theorem occ_go (x : Str) (c : Nat) : ∀ (l : List Nat) (k free : Nat) (acc : Array Nat), x.cps.toList.drop k = l → k ≤ x.length → free ≤ k → acc.size ≤ k →
    (forIn (List.range' k (l.length + 1)) (acc, free) (StrLaws.occBody x ⟨#[c]⟩ x.length (x.length + 1))).run.fst.toList = acc.toList ++ idxs c l k
  | [], k, free, acc, h, hk, hf, ha => by
    have hl : x.length ≤ k := by
      have := List.drop_eq_nil_iff.mp h
      rw [Array.length_toList] at this
      exact this
    rw [show List.range' k ([].length + 1) = [k] from rfl, List.forIn_cons]
    unfold StrLaws.occBody
    rw [if_neg (by intro z; have : k + 1 ≤ x.length := z.1.2; omega)]
    simp [idxs]
  | a :: l, k, free, acc, h, hk, hf, ha => by
    have hl : k < x.length := by
      have h1 : (x.cps.toList.drop k).length = (a :: l).length := by rw [h]
      rw [List.length_drop, Array.length_toList, List.length_cons] at h1
      show k < x.cps.size
      omega
    have h2 : x.cps.toList.drop (k + 1) = l := by
      rw [← List.drop_drop, h]; rfl
    rw [show List.range' k ((a :: l).length + 1) = k :: List.range' (k + 1) (l.length + 1) from rfl, List.forIn_cons]
    have hs := sub_one x c k a l h
    have ih := fun free acc => occ_go x c l (k + 1) free acc h2 (by omega)
    unfold StrLaws.occBody at ih ⊢
    rw [hs]
    by_cases g : a = c
    · rw [if_pos ⟨⟨⟨by show acc.size < _; omega, hf⟩, hl⟩, by rw [g]; exact decide_eq_true rfl⟩]
      have := ih (k + (⟨#[c]⟩ : Str).length) (acc.push k) (Nat.le_refl _) (by rw [Array.size_push]; omega)
      rw [pure_bind]
      rw [this, Array.toList_push, idxs, if_pos g, List.append_assoc]; rfl
    · rw [if_neg (by rw [decide_eq_false g]; exact fun z => Bool.false_ne_true z.2)]
      have := ih free acc (by omega) (by omega)
      rw [pure_bind]
      rw [this, idxs, if_neg g]
theorem occ_one (x : Str) (c : Nat) : Builtin.Str.occurrences x ⟨#[c]⟩ 0 x.length (x.length + 1) = idxs c x.cps.toList 0 := by
  rw [StrLaws.occ_eq]
  have := occ_go x c x.cps.toList 0 0 #[] rfl (by omega) (by omega) (by decide)
  rw [Array.length_toList] at this
  exact this
def rp (x : Str) (c : Nat) : Str := if (idxs c x.cps.toList 0).isEmpty = true then x else Builtin.Str.glued Str.empty (Builtin.Str.partsBetween x (idxs c x.cps.toList 0) 1)
theorem rp_eq (x : Str) (c : Nat) : Txt.replace x ⟨#[c]⟩ Str.empty = rp x c := by
  unfold Txt.replace rp
  rw [occ_one, show ((⟨#[c]⟩ : Str).length == 0) = false from rfl, Bool.false_and, Bool.or_false]
  rfl
def spt (x : Str) (c : Nat) : List Str := if (decide (x.length < 1) || decide (Builtin.Str.strKind x < Builtin.Str.strKind ⟨#[c]⟩)) = true then [x] else if (idxs c x.cps.toList 0).isEmpty = true then [x] else Builtin.Str.partsBetween x (idxs c x.cps.toList 0) 1
theorem spt_eq (x : Str) (c : Nat) : Txt.split x ⟨#[c]⟩ = spt x c := by
  unfold Txt.split spt
  rw [occ_one]
  rfl
def dgs (n : Int) : Str := ⟨((Nat.toDigits 10 n.natAbs).map Char.toNat).toArray⟩
theorem tstr_dgs (n : Int) : tstr n = dgs n := by
  unfold tstr dgs
  have e : (if n < 0 then -n else n) = Int.ofNat n.natAbs := by rw [Int.ofNat_eq_natCast]; split <;> omega
  rw [e, PyProof.Rows.text_ofNat]
theorem idxs_none (c : Nat) : ∀ (l : List Nat) (k : Nat), c ∉ l → idxs c l k = []
  | [], k, h => rfl
  | a :: l, k, h => by
    rw [idxs, if_neg (fun z : a = c => h (by rw [z]; exact List.mem_cons_self)), idxs_none c l _ fun z => h (List.mem_cons_of_mem _ z)]
theorem idxs_mid (c : Nat) (l2 : List Nat) (h2 : c ∉ l2) : ∀ (l : List Nat) (k : Nat), c ∉ l → idxs c (l ++ c :: l2) k = [k + l.length]
  | [], k, h => by
    show (if c = c then k :: idxs c l2 (k + 1) else _) = _
    rw [if_pos rfl, idxs_none c l2 _ h2]; rfl
  | a :: l, k, h => by
    show (if a = c then _ else idxs c (l ++ c :: l2) (k + 1)) = _
    rw [if_neg (fun z : a = c => h (by rw [z]; exact List.mem_cons_self)), idxs_mid c l2 h2 l (k + 1) fun z => h (List.mem_cons_of_mem _ z), List.length_cons]
    rw [show k + 1 + l.length = k + (l.length + 1) by omega]
abbrev sl (l : List Nat) : Str := ⟨l.toArray⟩
theorem parts_mid (c : Nat) (l1 l2 : List Nat) : Builtin.Str.partsBetween (sl (l1 ++ c :: l2)) [l1.length] 1 = [sl l1, sl l2] := by
  have e1 : (l1 ++ c :: l2).toArray.extract 0 l1.length = l1.toArray := by
    apply Array.toList_inj.mp
    rw [Array.toList_extract, List.extract_eq_take_drop]
    simp
  have e2 : (l1 ++ c :: l2).toArray.extract (l1.length + 1) (l1 ++ c :: l2).length = l2.toArray := by
    apply Array.toList_inj.mp
    rw [Array.toList_extract, List.extract_eq_take_drop]
    simp [← List.drop_drop]
    exact List.take_of_length_le (by omega)
  show [(⟨(l1 ++ c :: l2).toArray.extract 0 l1.length⟩ : Str), ⟨(l1 ++ c :: l2).toArray.extract (l1.length + 1) (l1 ++ c :: l2).length⟩] = _
  rw [e1, e2]
theorem len_sl (l : List Nat) : (sl l).length = l.length := rfl
theorem rp_mid {c : Nat} {l1 l2 : List Nat} (h1 : c ∉ l1) (h2 : c ∉ l2) : rp (sl (l1 ++ c :: l2)) c = sl (l1 ++ l2) := by
  unfold rp
  rw [show (sl (l1 ++ c :: l2)).cps.toList = l1 ++ c :: l2 from rfl, idxs_mid c l2 h2 l1 0 h1, Nat.zero_add]
  rw [if_neg (by exact Bool.false_ne_true), parts_mid]
  show (⟨l1.toArray ++ #[] ++ l2.toArray⟩ : Str) = _
  simp
theorem rp_no {c : Nat} {l : List Nat} (h1 : c ∉ l) : rp (sl l) c = sl l := by
  unfold rp
  rw [show (sl l).cps.toList = l from rfl, idxs_none c l 0 h1]
  rfl
theorem spt_mid {l1 l2 : List Nat} (h1 : 46 ∉ l1) (h2 : 46 ∉ l2) : spt (sl (l1 ++ 46 :: l2)) 46 = [sl l1, sl l2] := by
  unfold spt
  rw [show (sl (l1 ++ 46 :: l2)).cps.toList = l1 ++ 46 :: l2 from rfl, idxs_mid 46 l2 h2 l1 0 h1, Nat.zero_add]
  have hk : Builtin.Str.strKind ⟨#[46]⟩ = 1 := by decide +kernel
  have hk2 : 1 ≤ Builtin.Str.strKind (sl (l1 ++ 46 :: l2)) := by
    unfold Builtin.Str.strKind
    split
    · decide
    split <;> decide
  rw [decide_eq_false (show ¬ (sl (l1 ++ 46 :: l2)).length < 1 by rw [len_sl, List.length_append, List.length_cons]; omega), decide_eq_false (by rw [hk]; omega)]
  rw [if_neg (by exact Bool.false_ne_true), if_neg (by exact Bool.false_ne_true), parts_mid]
def ia (k : Nat) : List Nat := if k < 1000 then [48 + k / 100] else [48 + k / 1000, 48 + k / 100 % 10]
def ib (k : Nat) : List Nat := [48 + k / 10 % 10, 48 + k % 10]
def chk (k : Nat) : Bool := ((mulStr ⟨#[48]⟩ (3 - ((dgs k).length : Nat)) ++ dgs k).cps.toList == ia k ++ ib k) && (PySem.intText? ⟨(ia k ++ ib k).toArray⟩ == some (k : Int))
theorem chk_all : ∀ i : _root_.Fin 1202, chk i.val = true := by decide +kernel
theorem ia_no {c : Nat} (hc : c < 48) (k : Nat) : c ∉ ia k := by
  unfold ia
  split <;> simp <;> omega
theorem ib_no {c : Nat} (hc : c < 48) (k : Nat) : c ∉ ib k := by
  unfold ib
  simp; omega
theorem txt_ia {n : Int} (h1 : -1201 ≤ n) (h2 : n ≤ 1201) : txt n 2 = sl (ia n.natAbs ++ ib n.natAbs) := by
  have h := chk_all ⟨n.natAbs, by omega⟩
  unfold chk at h
  rw [Bool.and_eq_true] at h
  have e := eq_of_beq h.1
  unfold txt
  rw [tstr_dgs, show ("0" : Str) = ⟨#[48]⟩ by decide +kernel]
  have e2 : dgs n = dgs (n.natAbs : Nat) := by unfold dgs; rw [Int.natAbs_natCast]
  rw [e2]
  exact congrArg Str.mk (Array.toList_inj.mp e)
theorem read_ia {n : Int} (h1 : -1201 ≤ n) (h2 : n ≤ 1201) : PySem.intText? (sl (ia n.natAbs ++ ib n.natAbs)) = some (n.natAbs : Int) := by
  have h := chk_all ⟨n.natAbs, by omega⟩
  unfold chk at h
  rw [Bool.and_eq_true] at h
  exact eq_of_beq h.2
theorem cut_ix (l r : List Nat) (d : Nat) : HT.sIx (l ++ r).length d (some (((l ++ r).length : Nat) - (r.length : Nat))) = l.length := by
  have e : (((l ++ r).length : Nat) : Int) - (r.length : Nat) = (l.length : Nat) := by rw [List.length_append]; omega
  rw [e, HT.sIx_nat, List.length_append]
  omega
theorem cut_pre (l r : List Nat) : cutS (sl (l ++ r)) none (some (((l ++ r).length : Nat) - (r.length : Nat))) = sl l := by
  unfold cutS
  rw [len_sl, cut_ix, show (sl (l ++ r)).cps.toList = l ++ r from rfl, HT.sIx_none, List.drop_zero, Nat.sub_zero, List.take_append_length]
theorem cut_post (l r : List Nat) : cutS (sl (l ++ r)) (some (((l ++ r).length : Nat) - (r.length : Nat))) none = sl r := by
  unfold cutS
  rw [len_sl, cut_ix, show (sl (l ++ r)).cps.toList = l ++ r from rfl, HT.sIx_none, List.drop_append_length]
  rw [List.take_of_length_le (by rw [List.length_append]; omega)]
theorem dgt_eq {n : Int} (h1 : -1201 ≤ n) (h2 : n ≤ 1201) : dgt n 2 = sl ((if n < 0 then [45] else []) ++ ia n.natAbs ++ 46 :: ib n.natAbs) := by
  unfold dgt
  rw [txt_ia h1 h2, len_sl]
  have e1 := cut_pre (ia n.natAbs) (ib n.natAbs)
  have e2 := cut_post (ia n.natAbs) (ib n.natAbs)
  rw [show ((ib n.natAbs).length) = 2 from rfl] at e1 e2
  rw [e1, e2, if_pos (show (0 : Int) < ((2 : Nat) : Int) by decide), show ("." : Str) = ⟨#[46]⟩ by decide +kernel]
  by_cases h : n < 0
  · rw [if_pos h, if_pos h, show ("-" : Str) = ⟨#[45]⟩ by decide +kernel]
    show (⟨#[45] ++ (ia n.natAbs).toArray ++ (#[46] ++ (ib n.natAbs).toArray)⟩ : Str) = _
    simp
  · rw [if_neg h, if_neg h, show ("" : Str) = ⟨#[]⟩ by decide +kernel]
    show (⟨#[] ++ (ia n.natAbs).toArray ++ (#[46] ++ (ib n.natAbs).toArray)⟩ : Str) = _
    simp
/-! what the law reads out of it -/
theorem dgt_repl {n : Int} (h1 : -1201 ≤ n) (h2 : n ≤ 1201) : Txt.replace (Txt.replace (dgt n 2) "." "") "-" "" = sl (ia n.natAbs ++ ib n.natAbs) := by
  rw [dgt_eq h1 h2, show ("." : Str) = ⟨#[46]⟩ by decide +kernel, show ("-" : Str) = ⟨#[45]⟩ by decide +kernel, show ("" : Str) = Str.empty by decide +kernel, rp_eq, rp_eq]
  have a1 := ia_no (c := 46) (by decide) n.natAbs
  have a2 := ib_no (c := 46) (by decide) n.natAbs
  have b1 := ia_no (c := 45) (by decide) n.natAbs
  have b2 := ib_no (c := 45) (by decide) n.natAbs
  by_cases h : n < 0
  · rw [if_pos h, rp_mid (by simp [a1]) a2, List.append_assoc]
    exact rp_mid (c := 45) (l1 := []) (by simp) (by simp [b1, b2])
  · rw [if_neg h, List.nil_append, rp_mid a1 a2]
    exact rp_no (by simp [b1, b2])
theorem dgt_split {n : Int} (h1 : -1201 ≤ n) (h2 : n ≤ 1201) : Txt.split (dgt n 2) "." = [sl ((if n < 0 then [45] else []) ++ ia n.natAbs), sl (ib n.natAbs)] := by
  rw [dgt_eq h1 h2, show ("." : Str) = ⟨#[46]⟩ by decide +kernel, spt_eq]
  refine spt_mid ?_ (ib_no (by decide) _)
  have a1 := ia_no (c := 46) (by decide) n.natAbs
  by_cases h : n < 0
  · rw [if_pos h]; simp [a1]
  · rw [if_neg h]; simpa using a1
theorem len_ia (k : Nat) : (ia k).length ≤ 2 := by unfold ia; split <;> simp
theorem dgt_len {n : Int} (h1 : -1201 ≤ n) (h2 : n ≤ 1201) : (dgt n 2).length ≤ 6 := by
  rw [dgt_eq h1 h2, len_sl, List.length_append, List.length_append]
  have := len_ia n.natAbs
  have : ((if n < 0 then [45] else []) : List Nat).length ≤ 1 := by split <;> simp
  have : (46 :: ib n.natAbs).length = 3 := rfl
  omega
theorem at0 {α : Type} (d : α) (ds : List α) : atI (d :: ds) 0 = some d := by
  have e : ixN (d :: ds).length 0 = some 0 := by
    unfold ixN
    rw [if_pos (by omega), if_pos (by rw [List.length_cons]; omega)]; rfl
  unfold atI
  rw [e]; rfl
theorem dgt_head {n : Int} (h1 : -1201 ≤ n) (h2 : n ≤ 1201) : ∃ c, atI (dgt n 2).cps.toList 0 = some c ∧ ((⟨#[c]⟩ : Str) = "-" ↔ n < 0) ∧ c < 200 := by
  rw [dgt_eq h1 h2, show ("-" : Str) = ⟨#[45]⟩ by decide +kernel]
  by_cases h : n < 0
  · rw [if_pos h]
    exact ⟨45, at0 _ _, ⟨fun _ => h, fun _ => rfl⟩, by decide⟩
  · rw [if_neg h]
    have ha : ∃ c r, ia n.natAbs = c :: r ∧ 48 ≤ c ∧ c < 200 := by
      unfold ia
      split
      · exact ⟨_, _, rfl, by omega, by omega⟩
      · exact ⟨_, _, rfl, by omega, by omega⟩
    obtain ⟨c, r, e, c0, c1⟩ := ha
    rw [e]
    refine ⟨c, at0 _ _, ⟨fun z => ?_, fun z => absurd z h⟩, c1⟩
    have : (#[c] : Array Nat) = #[45] := congrArg Str.cps z
    have : c = 45 := by simpa using this
    omega

section
variable {k l m ka kb kc kd ke kf : Nat} {a b c d e f p q r s C : Rat} {Q : D → Prop} {n i n1 i1 n2 i2 n3 i3 n4 i4 n5 i5 : Int}
/-! ### the drawn numbers -/
theorem rl_sq_inj {x y : Rl} (h : x * x = y * y) (hx : 0 < x) (hy : 0 < y) : x = y := by
  have h4 : (x - y) * (x + y) = 0 := by grind
  have h5 : sr (x - y) * sr (x + y) = 0 := by rw [← sr_mul, h4, sr_zero]
  rw [sr_pos (show 0 < x + y by grind), Int.mul_one] at h5
  rcases sr_cases (x - y) with ⟨e, h⟩ | ⟨e, h⟩ | ⟨e, h⟩
  · omega
  · grind
  · omega
theorem sq_scale (hs : 0 < s) (hC : 0 < C) : Rl.sq (s * s * C) = Rl.q s * Rl.sq C := by
  have h1 : 0 < s * s * C := Rat.mul_pos (Rat.mul_pos hs hs) hC
  have h2 : 0 < Rl.q s := by rw [← Rl.q_zero, Rl.q_lt]; exact hs
  refine rl_sq_inj ?_ (sq_pos h1) (Rl.mul_pos h2 (sq_pos hC))
  rw [Rl.sq_mul (Rat.le_of_lt h1), Rl.q_mul, Rl.q_mul]
  have := Rl.sq_mul (Rat.le_of_lt hC)
  grind
theorem val_half (hC : 0 < C) (e : c = 1 / 2 * (1 / 2) * C) : val a b c = val a (b / 2) C := by
  unfold val
  rw [e, sq_scale (by decide +kernel) hC, show b / 2 = b * (1 / 2) by grind, Rl.q_mul]
  grind
theorem root_le2 (h0 : 0 ≤ C) (h : C ≤ 4) : Rl.sq C ≤ 2 := by
  have h1 := Rl.sq_mul h0
  have h2 := Rl.sq_nonneg C
  have h3 : Rl.q C ≤ 4 := by
    rw [show (4 : Rl) = Rl.q 4 from rfl, Rl.q_le]; exact h
  refine Classical.byContradiction fun z => ?_
  have h4 : 0 < Rl.sq C - 2 := by grind
  have := Rl.mul_pos h4 h4
  have := Rl.mul_pos h4 (show (0 : Rl) < 2 by grind)
  grind
def Smp (C : Rat) : Prop := C = 2 ∨ C = 3 ∨ C = 5
theorem nsq_5 : Nsq 5 := nsq_of (k := 2) (by decide) (by decide) (by decide)
theorem smp_th (h : Smp C) : Th C := by
  rcases h with rfl | rfl | rfl
  · exact th_2
  · exact th_3
  · exact th_of nsq_5 ⟨45, by decide +kernel⟩ (by decide)
theorem smp_two (h : Smp C) (h' : Smp e) : C = e ∨ Nsq (e * C) := by
  rcases h with rfl | rfl | rfl <;> rcases h' with rfl | rfl | rfl
  · exact .inl rfl
  · exact .inr (nsq_of (k := 2) (by decide +kernel) (by decide +kernel) (by decide +kernel))
  · exact .inr (nsq_of (k := 3) (by decide +kernel) (by decide +kernel) (by decide +kernel))
  · exact .inr (nsq_of (k := 2) (by decide +kernel) (by decide +kernel) (by decide +kernel))
  · exact .inl rfl
  · exact .inr (nsq_of (k := 3) (by decide +kernel) (by decide +kernel) (by decide +kernel))
  · exact .inr (nsq_of (k := 3) (by decide +kernel) (by decide +kernel) (by decide +kernel))
  · exact .inr (nsq_of (k := 3) (by decide +kernel) (by decide +kernel) (by decide +kernel))
  · exact .inl rfl
structure Dn (x : Nu) : Prop where
  alt : ∃ a b C, x.v = val a b C ∧ Sh a ∧ Sh b ∧ Smp C
  lo : -Rl.q 12 ≤ x.v
  hi : x.v ≤ Rl.q 12
/-- a drawn fraction -/
structure Fr (p : Rat) : Prop where
  w : Wh 6 p
  l : -4 ≤ p
  u : p ≤ 4
  z : bz 4 p
theorem fr_draw (h0 : 0 ≤ n) (h1 : n < 9) (h2 : 0 ≤ i) (h3 : i < 3) (hQ : ∀ p, Fr p → Q (dr p)) : F_fraction [.int (n - 4), .int (1 + i)] Q := by
  have hr : Rv (n - 4) (1 + i) (Rat.divInt (n - 4) (1 + i)) 4 := ⟨by omega, rfl, sm_of (by omega) (by omega), sm_of (by omega) (by omega)⟩
  have e := hr.div
  have u1 : ((-4 : Int) : Rat) ≤ ((n - 4 : Int) : Rat) := Rat.intCast_le_intCast.mpr (by omega)
  have u2 : ((n - 4 : Int) : Rat) ≤ ((4 : Int) : Rat) := Rat.intCast_le_intCast.mpr (by omega)
  rw [show ((-4 : Int) : Rat) = -4 from rfl, e] at u1
  rw [show ((4 : Int) : Rat) = 4 from rfl, e] at u2
  refine frac_rv hr (by decide) fun hb => hQ _ ?_
  have hc : i = 0 ∨ i = 1 ∨ i = 2 := by omega
  generalize Rat.divInt (n - 4) (1 + i) = p at *
  rcases hc with rfl | rfl | rfl
  · rw [show ((1 + 0 : Int) : Rat) = 1 from rfl] at u1 u2 e
    exact ⟨⟨6 * (n - 4), by rw [Rat.intCast_mul, e]; simp; grind⟩, by grind, by grind, hb⟩
  · rw [show ((1 + 1 : Int) : Rat) = 2 from rfl] at u1 u2 e
    exact ⟨⟨3 * (n - 4), by rw [Rat.intCast_mul, e]; simp; grind⟩, by grind, by grind, hb⟩
  · rw [show ((1 + 2 : Int) : Rat) = 3 from rfl] at u1 u2 e
    exact ⟨⟨2 * (n - 4), by rw [Rat.intCast_mul, e]; simp; grind⟩, by grind, by grind, hb⟩
theorem fr_sh (h : Fr p) : Sh p := by
  obtain ⟨⟨X, e⟩, h1, h2, _⟩ := h
  refine ⟨⟨70 * X, ?_⟩, by grind, by grind⟩
  rw [Rat.intCast_mul, ← e]; simp; grind
theorem fr_half (h : Fr p) : Sh (p / 2) := by
  obtain ⟨⟨X, e⟩, h1, h2, _⟩ := h
  refine ⟨⟨35 * X, ?_⟩, by grind, by grind⟩
  rw [Rat.intCast_mul, ← e]; simp; grind
theorem fr_plus (h : Fr p) (h' : Fr q) : Sh (p + 2 * q) := by
  obtain ⟨⟨X, e⟩, h1, h2, _⟩ := h
  obtain ⟨⟨Y, e'⟩, h1', h2', _⟩ := h'
  refine ⟨⟨70 * X + 140 * Y, ?_⟩, by grind, by grind⟩
  rw [Rat.intCast_add, Rat.intCast_mul, Rat.intCast_mul, ← e, ← e']; simp; grind
theorem val_b12 (ha : Fr a) (hb : Fr b) (h0 : 0 ≤ C) (h : C ≤ 4) : -Rl.q 12 ≤ val a b C ∧ val a b C ≤ Rl.q 12 := by
  have r := root_le2 h0 h
  have r0 := Rl.sq_nonneg C
  have b1 : -Rl.q 4 ≤ Rl.q b := by rw [← Rl.q_neg, Rl.q_le]; exact hb.l
  have b2 : Rl.q b ≤ Rl.q 4 := by rw [Rl.q_le]; exact hb.u
  have a1 : -Rl.q 4 ≤ Rl.q a := by rw [← Rl.q_neg, Rl.q_le]; exact ha.l
  have a2 : Rl.q a ≤ Rl.q 4 := by rw [Rl.q_le]; exact ha.u
  have e4 : Rl.q 4 = (4 : Rl) := rfl
  have e12 : Rl.q 12 = (12 : Rl) := rfl
  have := Rl.mul_bd (a := Rl.q b) (b := Rl.sq C) (B := 4) (C := 2) (by grind) (by grind) (by grind) (by grind) (by grind) (by grind)
  unfold val
  constructor <;> grind
theorem nsq_half : Nsq (dv 1 2) := ⟨(by decide +kernel : (0 : Rat) < dv 1 2), fun r hr => nsq_2.2 (2 * r) (by
  have : dv 1 2 = 1 / 2 := by decide +kernel
  rw [this] at hr
  grind)⟩
theorem tidy_dn (ha : Fr a) (hb : Fr b) (hC : Nsq C) (bC : bz 4 C) (h4 : C ≤ 4) (hs : ∀ b, Fr b → ∃ b' C', val a b C = val a b' C' ∧ Sh b' ∧ Smp C') (hQ : ∀ x : Nu, Dn x → Q x.d) : F_tidy [dr a, dr b, dr C] Q := by
  refine sp_tidy hC bC (by decide) ?_
  obtain ⟨b', C', e, h1, h2⟩ := hs b hb
  have hv := val_b12 ha hb (Rat.le_of_lt hC.1) h4
  exact hQ ⟨a, b, C, hC, bC, bz_mono ha.z (by decide), bz_mono hb.z (by decide)⟩ ⟨⟨a, b', C', e, fr_sh ha, h1, h2⟩, hv.1, hv.2⟩
theorem fr_bd12 (ha : Fr a) (hb : Fr b) : -Rl.q 12 ≤ val (a + 2 * b) 0 2 ∧ val (a + 2 * b) 0 2 ≤ Rl.q 12 := by
  have e : val (a + 2 * b) 0 2 = Rl.q (a + 2 * b) := by unfold val; rw [Rl.q_zero]; grind
  have := ha.l
  have := ha.u
  have := hb.l
  have := hb.u
  rw [e, ← Rl.q_neg, Rl.q_le, Rl.q_le]
  constructor <;> grind
theorem fr_0 : Fr 0 := ⟨⟨0, by decide +kernel⟩, by decide +kernel, by decide +kernel, bz_mono bz_0 (by decide)⟩
theorem lt31 : PyData.tuple [.int 3, .int 1] = dr 3 := rfl
theorem lt12 : PyData.tuple [.int 1, .int 2] = dr (dv 1 2) := rfl
theorem lt54 : PyData.tuple [.int 5, .int 4] = dr (dv 5 4) := rfl
theorem law_root_ok (hQ : ∀ x : Nu, Dn x → Q x.d) : F__law_root [wD] Q := by
  unfold F__law_root
  placed_of0
  rw [show rngD 0 (Int.toNat 2) = [.int 0, .int 1] from rfl]
  placed_of0
  refine next_ok (by decide) fun n n0 n1 => ?_
  placed_of0
  refine next_ok (by decide) fun i i0 i1 => ?_
  placed_of0
  refine fr_draw n0 n1 i0 i1 fun a ha => ?_
  placed_of0
  refine next_ok (by decide) fun n' n0' n1' => ?_
  placed_of0
  refine next_ok (by decide) fun i' i0' i1' => ?_
  placed_of0
  refine fr_draw n0' n1' i0' i1' fun b hb => ?_
  placed_of0
  refine next_ok (by decide) fun j j0 j1 => ?_
  have hc : j = 0 ∨ j = 1 ∨ j = 2 ∨ j = 3 ∨ j = 4 ∨ j = 5 := by omega
  have b29 := bz_mono ha.z (show 4 ≤ 29 by decide)
  have c29 := bz_mono hb.z (show 4 ≤ 29 by decide)
  rcases hc with rfl | rfl | rfl | rfl | rfl | rfl
  · placed_of0
    rw [lit01]
    refine sp_tidy0 hb.z ?_ (.inr rfl)
    have hv := val_b12 ha fr_0 (show (0 : Rat) ≤ 2 by decide) (by decide)
    exact hQ ⟨a, 0, 2, nsq_2, bz_mono bz_2 (by decide), bz_mono ha.z (by decide), bz_mono bz_0 (by decide)⟩ ⟨⟨a, 0, 2, rfl, fr_sh ha, Sh.zero, .inl rfl⟩, hv.1, hv.2⟩
  · placed_of0
    rw [lit21]
    exact tidy_dn ha hb nsq_2 cok_2.bC (by decide) (fun b h => ⟨b, 2, rfl, fr_sh h, .inl rfl⟩) hQ
  · placed_of0
    rw [lt31]
    exact tidy_dn ha hb cok_3.n cok_3.bC (by decide) (fun b h => ⟨b, 3, rfl, fr_sh h, .inr (.inl rfl)⟩) hQ
  · placed_of0
    rw [lt12]
    exact tidy_dn (C := dv 1 2) ha hb nsq_half ⟨by unfold sm; decide +kernel, by decide +kernel⟩ (by decide +kernel) (fun b h => ⟨b / 2, 2, val_half (by decide) (by decide +kernel), fr_half h, .inl rfl⟩) hQ
  · placed_of0
    rw [lit41]
    by_cases b0 : b = 0
    · refine sp_tidy0 hb.z ?_ (.inl b0)
      have hv := val_b12 ha fr_0 (show (0 : Rat) ≤ 2 by decide) (by decide)
      exact hQ ⟨a, 0, 2, nsq_2, bz_mono bz_2 (by decide), bz_mono ha.z (by decide), bz_mono bz_0 (by decide)⟩ ⟨⟨a, 0, 2, rfl, fr_sh ha, Sh.zero, .inl rfl⟩, hv.1, hv.2⟩
    refine tidy4 b29 c29 b0 ?_
    have hv := fr_bd12 ha hb
    exact hQ ⟨a + 2 * b, 0, 2, nsq_2, bz_mono bz_2 (by decide), bz_mono (bz_add ha.z (bz_mul bz_2 hb.z)) (by decide), bz_mono bz_0 (by decide)⟩ ⟨⟨a + 2 * b, 0, 2, rfl, fr_plus ha hb, Sh.zero, .inl rfl⟩, hv.1, hv.2⟩
  · placed_of0
    rw [lt54]
    exact tidy_dn (C := dv 5 4) ha hb cok_54.n cok_54.bC (by decide +kernel) (fun b h => ⟨b / 2, 5, val_half (by decide) (by decide +kernel), fr_half h, .inr (.inr rfl)⟩) hQ
end

section
variable {k l m ka kb kc kd ke kf : Nat} {a b c d e f p q r s C : Rat} {Q : D → Prop} {n i n1 i1 n2 i2 n3 i3 n4 i4 n5 i5 : Int}
/-! ### gaps of drawn numbers -/
theorem nu_rv (x : Nu) : Rv x.a.num (x.a.den : Nat) x.a 61 ∧ Rv x.b.num (x.b.den : Nat) x.b 61 ∧ Rv (trd x.b x.C).num ((trd x.b x.C).den : Nat) (trd x.b x.C) 5 := ⟨rv_dr x.ha, rv_dr x.hb, rv_dr (bz_trd1 x.hB)⟩
theorem nu_gap (x y : Nu) (h : Q (.int (sr (x.v - y.v)))) : F__law_gap [x.d, y.d] Q := by
  obtain ⟨a1, a2, a3⟩ := nu_rv x
  obtain ⟨b1, b2, b3⟩ := nu_rv y
  refine gap_ok a1 a2 a3 b1 b2 b3 (by decide) ?_
  rw [cmp_val x.t0 y.t0, val_trd, val_trd]
  exact h
theorem rv_d0 : Rv (Rat.num 0) ((Rat.den 0 : Nat) : Int) 0 1 := rv_dr bz_0
theorem gap_lo (x : Nu) (h1 : Rv n i p k) (hk : k < 5000) (h : Q (.int (sr (Rl.q p - x.v)))) : F__law_gap [.tuple [pr n i, dr 0, dr 0], x.d] Q := by
  obtain ⟨b1, b2, b3⟩ := nu_rv x
  refine gap_ok h1 rv_d0 rv_d0 b1 b2 b3 (by omega) ?_
  rw [cmp_rat x.t0, val_trd]
  exact h
theorem gap_hi (x : Nu) (h1 : Rv n i p k) (hk : k < 5000) (h : Q (.int (sr (x.v - Rl.q p)))) : F__law_gap [x.d, .tuple [pr n i, dr 0, dr 0]] Q := by
  obtain ⟨b1, b2, b3⟩ := nu_rv x
  refine gap_ok b1 b2 b3 h1 rv_d0 rv_d0 (by omega) ?_
  rw [cmp_val x.t0 (by decide), val_trd, show val p 0 0 = Rl.q p by unfold val; rw [Rl.q_zero]; grind]
  exact h
theorem plain_raw {d : D} (h : Q (.tuple [d, dr 0, dr 0])) : F_plain [d] Q := by
  unfold F_plain
  placed_of0
  exact h
theorem is_root_nu (x : Nu) (h : Q (.bool true)) : F_is_root [x.d] Q := is_root_nrm x.hN h
theorem eqv_st (x y : Str) : PyData.eqv (.str x) (.str y) = decide (x = y) := by
  show (x == y) = _
  by_cases h : x = y
  · rw [h, decide_eq_true rfl]; exact beq_self_eq_true y
  · rw [decide_eq_false h]; exact beq_eq_false_iff_ne.mpr h
/-! whole parts -/
theorem hund : Rl.q ((10 ^ 2 : Int) : Rat) = 100 := rfl
theorem q_halves : Rl.q (1 / 2) * 2 = 1 := by
  rw [← Rl.q_two, ← Rl.q_mul]
  exact congrArg Rl.q (by decide +kernel : (1 / 2 : Rat) * 2 = 1)
theorem q_i (n : Int) : Rl.q ((n + 1 : Int) : Rat) = Rl.q n + 1 := by rw [Rat.intCast_add, Rl.q_add]; rfl
theorem rv_q (h : Rv n i p k) : Rl.q p * Rl.q i = Rl.q n := by rw [← Rl.q_mul, h.div]
theorem q_200 : Rl.q ((200 : Int) : Rat) = 200 := rfl
theorem q_3 : Rl.q ((3 : Int) : Rat) = 3 := rfl
theorem q_2n1 (n : Int) : Rl.q ((2 * n - 1 : Int) : Rat) = 2 * Rl.q n - 1 ∧ Rl.q ((2 * n + 1 : Int) : Rat) = 2 * Rl.q n + 1 := by
  rw [Rat.intCast_sub, Rat.intCast_add, Rat.intCast_mul, Rl.q_sub, Rl.q_add, Rl.q_mul]
  exact ⟨rfl, rfl⟩
theorem rnd_bd {v : Rl} (lo : -Rl.q 12 ≤ v) (hi : v ≤ Rl.q 12) (h1 : Rl.q n ≤ v * Rl.q ((10 ^ 2 : Int) : Rat) + Rl.q (1 / 2)) (h2 : v * Rl.q ((10 ^ 2 : Int) : Rat) + Rl.q (1 / 2) < Rl.q ((n + 1 : Int) : Rat)) : -1201 ≤ n ∧ n ≤ 1201 := by
  rw [hund] at h1 h2
  rw [q_i] at h2
  have e := q_halves
  have e12 : Rl.q 12 = 12 := rfl
  rw [e12] at lo hi
  have a1 : -1201 ≤ Rl.q n := by grind
  have a2 : Rl.q n ≤ 1201 := by grind
  have e1 : (-1201 : Rl) = Rl.q ((-1201 : Int) : Rat) := rfl
  have e2 : (1201 : Rl) = Rl.q ((1201 : Int) : Rat) := rfl
  rw [e1, Rl.q_le] at a1
  rw [e2, Rl.q_le] at a2
  exact ⟨by exact_mod_cast a1, by exact_mod_cast a2⟩
theorem rnd_lo {v : Rl} (h : Rv (2 * n - 1) 200 p k) (h1 : Rl.q n ≤ v * Rl.q ((10 ^ 2 : Int) : Rat) + Rl.q (1 / 2)) : Rl.q p ≤ v := by
  have e1 := rv_q h
  rw [q_200, (q_2n1 n).1] at e1
  rw [hund] at h1
  have e := q_halves
  grind
theorem rnd_hi {v : Rl} (h : Rv (2 * n + 1) 200 p k) (h2 : v * Rl.q ((10 ^ 2 : Int) : Rat) + Rl.q (1 / 2) < Rl.q ((n + 1 : Int) : Rat)) : v < Rl.q p := by
  have e1 := rv_q h
  rw [q_200, (q_2n1 n).2] at e1
  rw [hund, q_i] at h2
  have e := q_halves
  grind
theorem ner_lo {v : Rl} (h : Rv n 3 p k) (h1 : Rl.q n ≤ v * Rl.q ((3 : Int) : Rat)) : Rl.q p ≤ v := by
  have e1 := rv_q h
  rw [q_3] at e1 h1
  grind
theorem q_third : Rl.q (dv 1 3) * 3 = 1 := by
  rw [show (3 : Rl) = Rl.q 3 from rfl, ← Rl.q_mul]
  exact congrArg Rl.q (by decide +kernel : dv 1 3 * 3 = 1)
theorem ner_hi {v : Rl} (h : Rv n 3 p k) (h2 : v * Rl.q ((3 : Int) : Rat) < Rl.q ((n + 1 : Int) : Rat)) : v < Rl.q (p + dv 1 3) := by
  have e1 := rv_q h
  have e2 := q_third
  rw [Rl.q_add]
  rw [q_3, q_i] at h2
  rw [q_3] at e1
  grind
theorem gt_no {v : Rl} (h : v ≤ 0) : decide (0 < sr v) = false := decide_eq_false (by have := (sr_gt (v := v)); intro z; have := this.mp z; grind)
theorem le_no {v : Rl} (h : 0 < v) : decide (sr v ≤ 0) = false := decide_eq_false (by rw [sr_pos h]; decide)
end

theorem lcW_no {g : MG} {c : En → M Bool} {w : En → M D} {ρ : En} {QL : List D → Prop} : ∀ (ds acc : List D), (∀ d ∈ ds, ∀ (T : En → Prop) (F : Prop), F → g d ρ fun ρ1 => c ρ1 fun b => if b = true then T ρ1 else F) → QL acc → lcW g c w ρ ds acc QL
  | [], acc, h, q => q
  | d :: ds, acc, h, q => by
    refine w_lcC ?_
    refine h d List.mem_cons_self (fun ρ1 => w ρ1 fun y => lcW g c w ρ ds (acc ++ [y]) QL) _ ?_
    exact lcW_no ds acc (fun x hx => h x (List.mem_cons_of_mem _ hx)) q
theorem lcW_nu {g : MG} {c : En → M Bool} {w : En → M D} {ρ : En} {QL : List D → Prop} (p : Nu → Bool) (h : ∀ y : Nu, ∀ (KT : D → Prop) (KF : Prop), (p y = true → KT y.d) → (p y = false → KF) → g y.d ρ fun ρ1 => c ρ1 fun b => if b = true then w ρ1 KT else KF) : ∀ (ys : List Nu) (acc : List D), QL (acc ++ (ys.filter p).map Nu.d) → lcW g c w ρ (ys.map Nu.d) acc QL
  | [], acc, q => by
    refine w_lcN ?_
    rw [List.filter_nil, List.map_nil, List.append_nil] at q
    exact q
  | y :: ys, acc, q => by
    rw [List.map_cons]
    refine w_lcC ?_
    refine h y _ _ (fun hy => ?_) fun hy => ?_
    · refine lcW_nu p h ys _ ?_
      rw [List.filter_cons_of_pos hy, List.map_cons] at q
      rw [List.append_assoc]; exact q
    · refine lcW_nu p h ys _ ?_
      rw [List.filter_cons_of_neg (by rw [hy]; decide)] at q
      exact q
theorem lst_le (sg : Int) (hsg : sg = 1 ∨ sg = -1) (x : Nu) (xs : List Nu) : ∀ y ∈ x :: xs, sg * sr ((lst sg x xs).v - y.v) ≤ 0 := by
  obtain ⟨pre, post, e, h1, h2⟩ := lst_spec sg hsg xs [] [] x (by simp) (by simp)
  simp only [List.nil_append] at e
  intro y hy
  rw [e, List.mem_append, List.mem_cons] at hy
  rcases hy with hy | rfl | hy
  · exact Int.le_of_lt (h1 y hy)
  · rw [show (lst sg x xs).v - (lst sg x xs).v = 0 by grind, sr_zero]; omega
  · exact h2 y hy
theorem eqv_pr (a b c d : Int) : PyData.eqv (pr a b) (pr c d) = decide (a = c ∧ b = d) := by
  show ((a == c) && ((b == d) && true)) = _
  by_cases h1 : a = c
  · by_cases h2 : b = d
    · rw [decide_eq_true ⟨h1, h2⟩, h1, h2]; simp
    · rw [decide_eq_false (fun z => h2 z.2)]; simp [h2]
  · rw [decide_eq_false (fun z => h1 z.1)]; simp [h1]
theorem len_side (x : Nu) : ∀ xs : List Nu, ((sides x xs).count (-1) = (xs.filter fun y => decide (sr (y.v - x.v) < 0)).length) ∧ ((sides x xs).count 0 = (xs.filter fun y => decide (sr (y.v - x.v) = 0)).length) := by
  intro xs
  rw [count_m1, count_0]
  unfold sides
  rw [List.countP_map, List.countP_map, List.countP_eq_length_filter, List.countP_eq_length_filter]
  exact ⟨rfl, rfl⟩
section
variable {Q : D → Prop}
theorem fl_dn {v : Rl} (h1 : -Rl.q 12 ≤ v) (h2 : v ≤ Rl.q 12) (t : Nat) : Rl.q (fl (v * Rl.q ((2 ^ t : Int) : Rat))) ≤ v * Rl.q ((2 ^ t : Int) : Rat) ∧ v * Rl.q ((2 ^ t : Int) : Rat) < Rl.q ((fl (v * Rl.q ((2 ^ t : Int) : Rat)) + 1 : Int) : Rat) ∧ -(12 * 2 ^ t + 2) ≤ fl (v * Rl.q ((2 ^ t : Int) : Rat)) ∧ fl (v * Rl.q ((2 ^ t : Int) : Rat)) ≤ 12 * 2 ^ t + 2 := by
  have hp : 0 < Rl.q ((2 ^ t : Int) : Rat) := by
    rw [← Rl.q_zero, Rl.q_lt]; exact pow2_q t
  have k := Rl.mul_bd (q_nn (by decide)) (Rl.le_iff.mpr (.inl hp)) h1 h2 (show -Rl.q ((2 ^ t : Int) : Rat) ≤ Rl.q ((2 ^ t : Int) : Rat) by grind) (show Rl.q ((2 ^ t : Int) : Rat) ≤ Rl.q ((2 ^ t : Int) : Rat) by grind)
  rw [← Rl.q_mul] at k
  have e : (12 : Rat) * ((2 ^ t : Int) : Rat) = ((12 * 2 ^ t : Int) : Rat) := by
    rw [Rat.intCast_mul]; rfl
  rw [e] at k
  have g1 : Rl.q ((-(12 * 2 ^ t + 1) : Int) : Rat) < -Rl.q ((12 * 2 ^ t : Int) : Rat) := by
    rw [← Rl.q_neg, Rl.q_lt, ← Rat.intCast_neg, Rat.intCast_lt_intCast]; omega
  have g2 : Rl.q ((12 * 2 ^ t : Int) : Rat) < Rl.q ((12 * 2 ^ t + 1 : Int) : Rat) := by
    rw [Rl.q_lt, Rat.intCast_lt_intCast]; omega
  have hf := fl_of (v := v * Rl.q ((2 ^ t : Int) : Rat)) (B := 12 * 2 ^ t + 1) (by grind) (by grind)
  generalize fl (v * Rl.q ((2 ^ t : Int) : Rat)) = F at *
  refine ⟨hf.1, hf.2, ?_, ?_⟩
  · have : Rl.q ((-(12 * 2 ^ t + 1) : Int) : Rat) < Rl.q ((F + 1 : Int) : Rat) := by grind
    rw [Rl.q_lt, Rat.intCast_lt_intCast] at this
    omega
  · have : Rl.q (F : Rat) < Rl.q ((12 * 2 ^ t + 1 : Int) : Rat) := by grind
    rw [Rl.q_lt, Rat.intCast_lt_intCast] at this
    omega
theorem fnd_gt {v : Rl} (h1 : -Rl.q 12 ≤ v) (h2 : v ≤ Rl.q 12) (t : Nat) : v < Rl.q (fnd v t) := by
  obtain ⟨a1, a2, a3, a4⟩ := fl_dn h1 h2 t
  have hp : 0 < Rl.q ((2 ^ t : Int) : Rat) := by
    rw [← Rl.q_zero, Rl.q_lt]; exact pow2_q t
  refine lt_of_mul hp ?_
  have e : fnd v t * ((2 ^ t : Int) : Rat) = ((fl (v * Rl.q ((2 ^ t : Int) : Rat)) + 1 : Int) : Rat) := by
    unfold fnd
    rw [Rat.divInt_eq_div]
    exact Rat.div_mul_cancel (by have := pow2_q t; grind)
  rw [← Rl.q_mul, e]
  exact a2
theorem fnd_rv {v : Rl} (h1 : -Rl.q 12 ≤ v) (h2 : v ≤ Rl.q 12) {t : Nat} (ht : t ≤ 170) : bz 200 (fnd v t) := by
  obtain ⟨a1, a2, a3, a4⟩ := fl_dn h1 h2 t
  have hn : 2 ^ t ≤ 2 ^ 170 := Nat.pow_le_pow_right (by decide) ht
  have e : ((2 : Int) ^ t) = ((2 ^ t : Nat) : Int) := by rw [Int.natCast_pow]; rfl
  unfold fnd
  refine bz_div (pow2_ne t) (sm_of ?_ ?_) (sm_mono (sm_pow2 t) (by omega))
  · rw [e] at a3; rw [e]
    have : (2 : Nat) ^ 200 = 1073741824 * 2 ^ 170 := by decide
    have : (0 : Nat) < 2 ^ t := Nat.pow_pos (by decide)
    omega
  · rw [e] at a4; rw [e]
    have : (2 : Nat) ^ 200 = 1073741824 * 2 ^ 170 := by decide
    have : (0 : Nat) < 2 ^ t := Nat.pow_pos (by decide)
    omega
theorem between_dn {x y : Nu} (hx : Dn x) (hy : Dn y) (hlt : x.v < y.v) (h : ∀ m, bz 200 m → x.v < Rl.q m → Rl.q m < y.v → Q (dr m)) : F_between [x.d, y.d] Q := by
  obtain ⟨a, b, C, e, sa, sb, sC⟩ := hx.alt
  obtain ⟨a', b', C', e', sa', sb', sC'⟩ := hy.alt
  rw [e, e'] at hlt
  obtain ⟨T, hT, t1, t2⟩ := fnd_least (smp_th sC) (smp_th sC') (smp_two sC sC') sa sb sa' sb' hlt
  rw [← e, ← e'] at t1 t2
  exact between_ok x.hN x.hB y.hN y.hB x.ha x.hb y.ha y.hb hT t1 t2 (h _ (fnd_rv hx.lo hx.hi hT) (fnd_gt hx.lo hx.hi T) t1)
end

section
variable {k l m ka kb kc kd ke kf : Nat} {a b c d e f p q r s C : Rat} {Q : D → Prop} {n i n1 i1 n2 i2 n3 i3 n4 i4 n5 i5 : Int}
theorem rounded2 (x : Nu) (h : ∀ n : Int, n = fl (x.v * Rl.q ((10 ^ 2 : Int) : Rat) + Rl.q (1 / 2)) → Rl.q n ≤ x.v * Rl.q ((10 ^ 2 : Int) : Rat) + Rl.q (1 / 2) → x.v * Rl.q ((10 ^ 2 : Int) : Rat) + Rl.q (1 / 2) < Rl.q ((n + 1 : Int) : Rat) → Q (.int n)) : F_rounded [x.d, .int 2] Q :=
  rounded_ok (j := 2) (by decide) x.hN x.hB x.ha x.hb (by decide) (by decide) (by decide) fun n h1 h2 h3 _ => h n h1 h2 h3
theorem digits2 (x : Nu) (h : ∀ n : Int, n = fl (x.v * Rl.q ((10 ^ 2 : Int) : Rat) + Rl.q (1 / 2)) → Q (.str (dgt n 2))) : F_digits_of [x.d, .int 2] Q :=
  digits_ok (j := 2) (by decide) x.hN x.hB x.ha x.hb (by decide) (by decide) (by decide) fun n h1 _ => h n h1
theorem near3 (x : Nu) (h : ∀ n : Int, Rl.q n ≤ x.v * Rl.q ((3 : Int) : Rat) → x.v * Rl.q ((3 : Int) : Rat) < Rl.q ((n + 1 : Int) : Rat) → sm 300 n → Q (dr (Rat.divInt n 3))) : F_near_by [x.d, .int 3] Q :=
  near_ok (i := 3) (l := 2) (by decide) (by unfold sm; decide) (by decide) x.hN x.hB x.ha x.hb (by decide) fun n h1 h2 h3 h4 => h n h2 h3 (sm_mono h4 (by decide))
theorem floor1 (x : Nu) (h : ∀ n : Int, Rl.q n ≤ x.v → x.v < Rl.q ((n + 1 : Int) : Rat) → sm 300 n → Q (.int n)) : F_floor_of [x.d] Q :=
  floor_nrm x.hN x.hB x.ha x.hb (by decide) fun n h1 h2 h3 h4 => h n h2 h3 (sm_mono h4 (by decide))
theorem sign_nu (x : Nu) (h : Q (.int (sg1 x.a x.b (trd x.b x.C)))) : F_sign_of_root [x.d] Q := sp_sign_of_root x.ha x.hb (bz_trd1 x.hB) (by decide) h
theorem rooted_nu (x : Nu) (h : Q (.int (sg1 x.a x.b (trd x.b x.C)))) : F__law_rooted [dr x.a, dr x.b, dr (trd x.b x.C)] Q := by
  obtain ⟨a1, a2, a3⟩ := nu_rv x
  exact rooted_ok a1 a2 a3 (by decide) h
theorem w_repl {x y z : Str} {w : En → M D} {ρ : En} (hm : ∀ K : D → Prop, K (.str x) → w ρ K) (hl : x.length + (x.length + 1) * z.length ≤ 16777216) (q : Q (.str (Txt.replace x y z))) : eRepl y z w ρ Q := hm _ ⟨hl, q⟩
theorem w_intS {x : Str} {n : Int} (h1 : PySem.intText? x = some n) (h2 : x.length ≤ 640) (q : Q (.int n)) : fIntS [.str x] Q := ⟨n, h1, h2, q⟩
theorem w_ixS {x : Str} {i : Int} {c : Nat} (h1 : x.length ≤ 100000) (h2 : atI x.cps.toList i = some c) (q : Q (.str ⟨#[c]⟩)) : fIxS (.str x) (.int i) Q := ⟨h1, c, h2, q⟩
theorem w_split {x y : Str} {w : En → M D} {ρ : En} (hm : ∀ K : D → Prop, K (.str x) → w ρ K) (h1 : x.length ≤ 90000) (h2 : (y.length == 0) = false) (q : Q (.list ((Txt.split x y).map PyData.str))) : eSplit w y ρ Q := hm _ ⟨h1, h2, q⟩
theorem repl_len {n : Int} (h1 : -1201 ≤ n) (h2 : n ≤ 1201) : (Txt.replace (dgt n 2) "." "").length ≤ 100 := by
  rw [dgt_eq h1 h2, show ("." : Str) = ⟨#[46]⟩ by decide +kernel, show ("" : Str) = Str.empty by decide +kernel, rp_eq]
  have a1 := ia_no (c := 46) (by decide) n.natAbs
  have a2 := ib_no (c := 46) (by decide) n.natAbs
  have l1 := len_ia n.natAbs
  have l2 : (ib n.natAbs).length = 2 := rfl
  by_cases h : n < 0
  · rw [if_pos h, rp_mid (by simp [a1]) a2, len_sl, List.length_append, List.length_append, List.length_singleton]
    omega
  · rw [if_neg h, List.nil_append, rp_mid a1 a2, len_sl, List.length_append]
    omega
theorem dgt_words {n : Int} (h1 : -1201 ≤ n) (h2 : n ≤ 1201) {w : En → M D} {ρ : En} (hm : ∀ K : D → Prop, K (.str (dgt n 2)) → w ρ K) (q : Q (.str (sl (ia n.natAbs ++ ib n.natAbs)))) : eRepl "-" "" (eRepl "." "" w) ρ Q := by
  have hl := dgt_len h1 h2
  have hl2 := repl_len h1 h2
  have e0 : ("" : Str).length = 0 := by decide +kernel
  refine w_repl (x := Txt.replace (dgt n 2) "." "") (fun K hK => w_repl hm (by rw [e0]; omega) hK) (by rw [e0]; omega) ?_
  rw [dgt_repl h1 h2]
  exact q
theorem sok_one {c : Nat} (h : c < 200) : PySem.PyData.strOk (⟨#[c]⟩ : Str) = true := by
  rw [sok_iff]
  intro d hd
  have : d = c := by simpa using hd
  omega
theorem roots_ok (hsum : ∀ Q : D → Prop, Q (.bool true) → F__law_sums [wD] Q) (h : Q (.bool true)) : F__law_roots [wD] Q := by
  unfold F__law_roots
  kct_strs
  rw [show rngD 0 (Int.toNat 4) = [.int 0, .int 1, .int 2, .int 3] from rfl]
  kct_strs
  refine law_root_ok fun x1 d1 => ?_
  kct_strs
  refine law_root_ok fun x2 d2 => ?_
  kct_strs
  refine law_root_ok fun x3 d3 => ?_
  kct_strs
  refine law_root_ok fun x4 d4 => ?_
  kct_strs
  have hJ : ∀ d ∈ [x1.d, x2.d, x3.d, x4.d], ∃ x : Nu, d = x.d ∧ Dn x := by
    intro d hd
    simp only [List.mem_cons, List.not_mem_nil, or_false] at hd
    rcases hd with rfl | rfl | rfl | rfl
    · exact ⟨x1, rfl, d1⟩
    · exact ⟨x2, rfl, d2⟩
    · exact ⟨x3, rfl, d3⟩
    · exact ⟨x4, rfl, d4⟩
  refine forW_inv (I := fun ρ => ∃ s2 s3 s4 s5 s6 s7, ρ = [.va wD, .va (.list [x1.d, x2.d, x3.d, x4.d]), s2, s3, s4, s5, s6, s7, .no, .no, .no]) (fun d => ∃ x : Nu, d = x.d ∧ Dn x) ?_ ?_ _ _ ⟨_, _, _, _, _, _, rfl⟩ hJ
  · rintro d ρ nx' ct' ⟨x, rfl, hx⟩ ⟨s2, s3, s4, s5, s6, s7, rfl⟩ hnx hct
    placed_of0
    refine is_root_nu x ?_
    placed_of0
    refine sign_nu x ?_
    placed_of0
    refine rooted_nu x ?_
    placed_of0
    rw [eqv_int, decide_eq_true rfl]
    kct_strs
    refine forW_inv (I := fun ρ => ∃ s3, ρ = [.va wD, .va (.list [x1.d, x2.d, x3.d, x4.d]), .va x.d, s3, s4, s5, s6, s7, .no, .no, .no]) (fun d => ∃ x : Nu, d = x.d ∧ Dn x) ?_ ?_ _ _ ⟨_, rfl⟩ hJ
    · rintro d ρ nx2 ct2 ⟨y, rfl, hy⟩ ⟨s3, rfl⟩ hnx2 hct2
      placed_of0
      refine nu_compare x y ?_
      placed_of0
      refine nu_gap x y ?_
      placed_of0
      rw [eqv_int, decide_eq_true rfl]
      placed_of0
      exact hnx2 _ ⟨_, rfl⟩
    rintro ρ ⟨s3, rfl⟩
    placed_of0
    refine floor1 x fun n f1 f2 f3 => ?_
    placed_of0
    refine plain_raw ?_
    placed_of0
    have r1 : Rv n 1 (n : Rat) 300 := rv_lit f3 (by decide)
    have r2 : Rv (n + 1) 1 ((n + 1 : Int) : Rat) 301 := rv_lit (sm_add f3 (sm_mono (show sm 1 1 by unfold sm; decide) (by decide))) (by decide)
    refine gap_lo x r1 (by decide) ?_
    placed_of0
    rw [gt_no (by grind)]
    placed_of0
    refine plain_raw ?_
    placed_of0
    refine gap_lo x r2 (by decide) ?_
    placed_of0
    rw [le_no (by grind)]
    placed_of0
    refine rounded2 x fun n e1 g1 g2 => ?_
    obtain ⟨z1, z2⟩ := rnd_bd hx.lo hx.hi g1 g2
    placed_of0
    · exact cmul (show sm 2 2 by unfold sm; decide) (show sm 12 n from sm_of (by omega) (by omega)) (by decide)
    placed_of0
    have r1 : Rv (2 * n - 1) 200 (Rat.divInt (2 * n - 1) 200) 20 := ⟨by decide, rfl, sm_of (by omega) (by omega), by unfold sm; decide⟩
    have r2 : Rv (2 * n + 1) 200 (Rat.divInt (2 * n + 1) 200) 20 := ⟨by decide, rfl, sm_of (by omega) (by omega), by unfold sm; decide⟩
    refine frac_rv r1 (by decide) fun hb => ?_
    placed_of0
    refine plain_raw ?_
    placed_of0
    refine gap_lo x (rv_dr hb) (by decide) ?_
    placed_of0
    have i1 := rnd_lo r1 g1
    have i2 := rnd_hi r2 g2
    rw [gt_no (by grind)]
    placed_of0
    · exact cmul (show sm 2 2 by unfold sm; decide) (show sm 12 n from sm_of (by omega) (by omega)) (by decide)
    placed_of0
    refine frac_rv r2 (by decide) fun hb => ?_
    placed_of0
    refine plain_raw ?_
    placed_of0
    refine gap_lo x (rv_dr hb) (by decide) ?_
    placed_of0
    rw [le_no (by grind)]
    placed_of0
    refine digits2 x fun n' e2 => ?_
    rw [← e1] at e2
    subst e2
    placed_of0
    refine dgt_words z1 z2 (fun K hK => by placed_of0; exact hK) ?_
    placed_of0
    have l1 := len_ia n'.natAbs
    refine w_intS (read_ia z1 z2) (by rw [len_sl, List.length_append, show (ib n'.natAbs).length = 2 from rfl]; omega) ?_
    placed_of0
    rw [eqv_int, decide_eq_true (by split <;> omega)]
    placed_of0
    obtain ⟨c, hc1, hc2, hc3⟩ := dgt_head z1 z2
    refine w_ixS (by have := dgt_len z1 z2; omega) hc1 ?_
    placed_of0
    · exact okD_str (sok_one hc3)
    · exact okD_str (by decide +kernel)
    rw [eqv_st, decide_eq_decide.mpr hc2]
    placed_of0
    rw [eqv_bool]
    placed_of0
    refine w_split (x := dgt n' 2) (fun K hK => by placed_of0; exact hK) (by have := dgt_len z1 z2; omega) (by decide +kernel) ?_
    rw [dgt_split z1 z2]
    placed_of0
    rw [List.map_cons, List.map_cons, List.map_nil]
    placed_of0
    refine w_lenS (by show 2 ≤ 100000; decide) ?_
    placed_of0
    rw [show ((sl (ib n'.natAbs)).length : Int) = 2 from rfl]
    placed_of0
    refine near3 x fun m m1 m2 m3 => ?_
    have r3 : Rv m 3 (Rat.divInt m 3) 300 := ⟨by decide, rfl, m3, by unfold sm; decide +kernel⟩
    have b3 : bz 300 (Rat.divInt m 3) := bz_div r3.ne r3.sn r3.se
    have i1 := ner_lo r3 m1
    have i2 := ner_hi r3 m2
    placed_of0
    refine plain_raw ?_
    placed_of0
    refine gap_lo x (rv_dr b3) (by decide) ?_
    placed_of0
    rw [gt_no (by grind)]
    placed_of0
    refine plus_ok (rv_dr b3) (q := dv 1 3) (l := 2) ⟨by decide, rfl, by unfold sm; decide, by unfold sm; decide⟩ (by decide) fun u v hv => ?_
    placed_of0
    refine plain_raw ?_
    placed_of0
    refine gap_lo x hv (by decide) ?_
    placed_of0
    rw [le_no (by grind)]
    placed_of0
    exact hnx _ ⟨_, _, _, _, _, _, rfl⟩
  · rintro ρ ⟨s2, s3, s4, s5, s6, s7, rfl⟩
    placed_of0
    show F_sorted_roots [.list ([x1, x2, x3, x4].map Nu.d)] _
    refine sorted_roots_ok (by show 4 < 900; decide) fun zs hz hp => ?_
    have hl : zs.length = 4 := hp.length_eq
    placed_of0
    refine w_sortedT (okS_nu zs (by omega)) ?_
    placed_of0
    show fSorted [.list ([x1, x2, x3, x4].map Nu.d)] _
    refine w_sortedL (okS_nu [x1, x2, x3, x4] (by show 4 ≤ 1000; decide)) ?_
    refine w_ne (okD_sorted _) (okD_sorted _) ?_
    rw [sort_same hp, eqv_sorted]
    obtain ⟨y1, y2, y3, y4, rfl⟩ : ∃ a b c d, zs = [a, b, c, d] := by
      match zs, hl with
      | [a, b, c, d], _ => exact ⟨a, b, c, d, rfl⟩
    have u12 : y1.v ≤ y2.v := by unfold Up at hz; rw [List.pairwise_cons] at hz; exact hz.1 _ (by simp)
    have u23 : y2.v ≤ y3.v := by unfold Up at hz; rw [List.pairwise_cons, List.pairwise_cons] at hz; exact hz.2.1 _ (by simp)
    have u34 : y3.v ≤ y4.v := by unfold Up at hz; rw [List.pairwise_cons, List.pairwise_cons, List.pairwise_cons] at hz; exact hz.2.2.1 _ (by simp)
    have hD : ∀ x ∈ [x1, x2, x3, x4], Dn x := by
      intro x hx
      simp only [List.mem_cons, List.not_mem_nil, or_false] at hx
      rcases hx with rfl | rfl | rfl | rfl <;> assumption
    have w1 : Dn y1 := hD _ (hp.mem_iff.mp (by simp))
    have w4 : Dn y4 := hD _ (hp.mem_iff.mp (by simp))
    have m1 := lst_le 1 (.inl rfl) x1 [x2, x3, x4]
    have m2 := lst_le (-1) (.inr rfl) x1 [x2, x3, x4]
    rw [List.map_cons, List.map_cons, List.map_cons, List.map_cons, List.map_nil]
    placed_of0
    rw [show rngD 0 (Int.toNat 3) = [.int 0, .int 1, .int 2] from rfl]
    placed_of0
    rw [show ((0 : Int) + 1) = 1 from rfl]
    placed_of0
    refine nu_gap y1 y2 ?_
    placed_of0
    rw [gt_no (by grind)]
    placed_of0
    rw [show ((1 : Int) + 1) = 2 from rfl]
    placed_of0
    refine nu_gap y2 y3 ?_
    placed_of0
    rw [gt_no (by grind)]
    placed_of0
    rw [show ((2 : Int) + 1) = 3 from rfl]
    placed_of0
    refine nu_gap y3 y4 ?_
    placed_of0
    rw [gt_no (by grind)]
    repeat ((fail_if_success (with_reducible show lcW _ _ _ _ _ _ _)); first | tb_rel | tb_start)
    refine w_lcN ?_
    repeat ((fail_if_success (with_reducible show lcW _ _ _ _ _ _ _)); first | tb_rel | tb_start)
    refine lcW_no _ _ ?_ ?_
    · intro d hd T F hF
      obtain ⟨y, rfl, hy⟩ : ∃ y, d = y.d ∧ y ∈ [x1, x2, x3, x4] := by
        simp only [List.mem_cons, List.not_mem_nil, or_false] at hd
        rcases hd with rfl | rfl | rfl | rfl
        · exact ⟨x1, rfl, by simp⟩
        · exact ⟨x2, rfl, by simp⟩
        · exact ⟨x3, rfl, by simp⟩
        · exact ⟨x4, rfl, by simp⟩
      have q1 := m1 y hy
      have q2 := m2 y hy
      placed_of0
      show F_least_of [.list ((x1 :: [x2, x3, x4]).map Nu.d)] _
      refine least_ok ?_
      placed_of0
      refine nu_gap _ y ?_
      placed_of0
      rw [decide_eq_false (by omega)]
      placed_of0
      show F_greatest_of [.list ((x1 :: [x2, x3, x4]).map Nu.d)] _
      refine greatest_ok ?_
      placed_of0
      refine nu_gap _ y ?_
      placed_of0
      rw [decide_eq_false (by omega)]
      placed_of0
      exact hF
    placed_of0
    show F_rank_of [.list ([x1, x2, x3, x4].map Nu.d), x1.d] _
    refine rank_ok (by show 4 < 1000; decide) ?_
    repeat ((fail_if_success (with_reducible show lcW _ _ _ _ _ _ _)); first | tb_rel | tb_start)
    show lcW _ _ _ _ ([x1, x2, x3, x4].map Nu.d) [] _
    refine lcW_nu (fun y => decide (sr (y.v - x1.v) < 0)) (fun y KT KF kt kf => ?_) _ _ ?_
    · placed_of0
      refine nu_gap y x1 ?_
      placed_of0
      by_cases g : sr (y.v - x1.v) < 0
      · rw [decide_eq_true g]
        placed_of0
        exact kt (decide_eq_true g)
      · rw [decide_eq_false g]
        placed_of0
        exact kf (decide_eq_false g)
    rw [List.nil_append]
    repeat ((fail_if_success (with_reducible show lcW _ _ _ _ _ _ _)); first | tb_rel | tb_start)
    show lcW _ _ _ _ ([x1, x2, x3, x4].map Nu.d) [] _
    refine lcW_nu (fun y => decide (sr (y.v - x1.v) = 0)) (fun y KT KF kt kf => ?_) _ _ ?_
    · placed_of0
      refine nu_gap y x1 ?_
      placed_of0
      rw [eqv_int]
      by_cases g : sr (y.v - x1.v) = 0
      · rw [decide_eq_true g]
        placed_of0
        exact kt (decide_eq_true g)
      · rw [decide_eq_false g]
        placed_of0
        exact kf (decide_eq_false g)
    rw [List.nil_append]
    placed_of0
    obtain ⟨n1, n2⟩ := len_side x1 [x1, x2, x3, x4]
    rw [n1, n2, List.length_map, List.length_map, eqv_pr, decide_eq_true ⟨rfl, rfl⟩]
    placed_of0
    have em : atI [y1.d, y2.d, y3.d, y4.d] (-1) = some y4.d := rfl
    refine w_ixT em ?_
    placed_of0
    refine nu_gap y1 y4 ?_
    placed_of0
    by_cases g : sr (y1.v - y4.v) < 0
    · rw [decide_eq_true g]
      rw [sr_lt] at g
      placed_of0
      refine w_ixT em ?_
      placed_of0
      refine between_dn w1 w4 (by grind) fun m b1 b2 b3 => ?_
      placed_of0
      refine plain_raw ?_
      placed_of0
      refine gap_hi y1 (rv_dr b1) (by decide) ?_
      placed_of0
      rw [decide_eq_false (by rw [sr_neg (by grind)]; decide)]
      placed_of0
      refine plain_raw ?_
      placed_of0
      refine w_ixT em ?_
      placed_of0
      refine gap_lo y4 (rv_dr b1) (by decide) ?_
      placed_of0
      rw [decide_eq_false (by rw [sr_neg (by grind)]; decide)]
      placed_of0
      exact hsum _ h
    · rw [decide_eq_false g]
      placed_of0
      exact hsum _ h
end

section
variable {k l m ka kb kc kd ke kf : Nat} {a b c d e f p q r s C : Rat} {Q : D → Prop} {n i n1 i1 n2 i2 n3 i3 n4 i4 n5 i5 : Int}
/-! ### sums -/
def Due (C : Rat) (d : D) : Prop := ∃ (X Y : Rat) (n i n' i' : Int), d = .tuple [nrm X Y C, pr n i, pr n' i'] ∧ Rv n i X 900 ∧ Rv n' i' Y 900 ∧ bz 900 X ∧ bz 900 Y
theorem rv_mono {k l : Nat} (h : Rv n i p k) (hk : k ≤ l) : Rv n i p l := ⟨h.ne, h.eq, sm_mono h.sn hk, sm_mono h.se hk⟩
theorem due_of {X Y X' Y' : Rat} (h1 : Rv n i X' k) (h2 : Rv n1 i1 Y' l) (e1 : X = X') (e2 : Y = Y') (hk : k ≤ 900) (hl : l ≤ 900) (b1 : bz m X) (b2 : bz ka Y) (hm : m ≤ 900) (hka : ka ≤ 900) : Due C (.tuple [nrm X Y C, pr n i, pr n1 i1]) := ⟨X, Y, n, i, n1, i1, rfl, rv_mono (e1 ▸ h1) hk, rv_mono (e2 ▸ h2) hl, bz_mono b1 hm, bz_mono b2 hka⟩
theorem lt32 : PyData.tuple [.int 3, .int 2] = dr (dv 3 2) := rfl
theorem lt94 : PyData.tuple [.int 9, .int 4] = dr (dv 3 2 * dv 3 2) := by
  rw [show dv 3 2 * dv 3 2 = dv 9 4 by decide +kernel]; rfl
theorem lt23 : PyData.tuple [.int 2, .int 3] = dr (dv 2 3) := rfl
theorem rv_23 : Rv 2 3 (dv 2 3) 3 := ⟨by decide, rfl, by unfold sm; decide, by unfold sm; decide⟩
local macro_rules | `(tactic| pv_meta) => `(tactic| exact rv_23)
theorem list91 : ∀ d ∈ [PyData.tuple [.int 2, .int 1], .tuple [.int 3, .int 1], .tuple [.int 1, .int 2]], ∃ C, d = dr C ∧ Nsq C ∧ bz 4 C := by
  intro d hd
  simp only [List.mem_cons, List.not_mem_nil, or_false] at hd
  rcases hd with rfl | rfl | rfl
  · exact ⟨2, rfl, nsq_2, cok_2.bC⟩
  · exact ⟨3, rfl, cok_3.n, cok_3.bC⟩
  · exact ⟨dv 1 2, rfl, nsq_half, ⟨by unfold sm; decide +kernel, by decide +kernel⟩⟩
theorem root_of_c (hN : Nsq C) (hB : bz 4 C) (h : Q (nrm 0 1 C)) : F_root_of [dr C] Q := by
  unfold F_root_of
  placed_of0
  rw [cN, show c_WHOLE = dr 1 from rfl]
  exact sp_tidy hN hB (by decide) h
theorem root_of_94 (h : Q (rt (dv 3 2) 0 0)) : F_root_of [.tuple [.int 9, .int 4]] Q := by
  unfold F_root_of
  placed_of0
  rw [cN, show c_WHOLE = dr 1 from rfl, lt94]
  refine sp_tidy_sq (s := dv 3 2) (kc := 5) (kb := 1) (ka := 1) (by decide +kernel) ⟨by unfold sm; decide +kernel, by decide +kernel⟩ ⟨by unfold sm; decide +kernel, by decide +kernel⟩ bz_0 bz_1 (by decide) ?_
  rw [show (0 : Rat) + 1 * dv 3 2 = dv 3 2 by grind]
  exact h
theorem br_e (q : Q (.bool false)) : F_is_root [.tuple [.tuple [.int 0, .int 1], .tuple [.int 1, .int 1], .tuple [.int 0, .int 1]]] Q := by
  unfold F_is_root; placed_of0; refine fr _ _ (by decide) (by decide) ?_; placed_of0; refine fr _ _ (by decide) (by decide) ?_; placed_of0; refine fr _ _ (by decide) (by decide) ?_; placed_of0; exact q
theorem br_f (q : Q (.bool false)) : F_is_root [.tuple [.tuple [.int 0, .int 1], .tuple [.int 0, .int 1], .tuple [.int 2, .int 1]]] Q := by
  unfold F_is_root; placed_of0; refine fr _ _ (by decide) (by decide) ?_; placed_of0; refine fr _ _ (by decide) (by decide) ?_; placed_of0; refine fr _ _ (by decide) (by decide) ?_; placed_of0; exact q
theorem br_g (q : Q (.bool false)) : F_is_root [.tuple [.tuple [.int 0, .int 1], .tuple [.int 1, .int 1], .tuple [.int (-2), .int 1]]] Q := by
  unfold F_is_root; placed_of0; refine fr _ _ (by decide) (by decide) ?_; placed_of0; refine fr _ _ (by decide) (by decide) ?_; placed_of0; refine fr _ _ (by decide) (by decide) ?_; placed_of0; exact q
theorem br_1 {d : D} (q : Q (.bool false)) : F_is_root [.tuple [d]] Q := by unfold F_is_root; placed_of0; exact q
theorem sums_ok (h : Q (.bool true)) : F__law_sums [wD] Q := by
  unfold F__law_sums
  placed_of0
  refine next_ok (by decide) fun j j0 j1 => ?_
  obtain ⟨dc, hdc, hat⟩ := atI_mem (ds := [PyData.tuple [.int 2, .int 1], .tuple [.int 3, .int 1], .tuple [.int 1, .int 2]]) j0 j1
  obtain ⟨C, rfl, hN, hB⟩ := list91 dc hdc
  refine w_ixT hat ?_
  placed_of0
  rw [show rngD 0 (Int.toNat 4) = [.int 0, .int 1, .int 2, .int 3] from rfl]
  placed_of0
  refine next_ok (by decide) fun n n0 n1 => ?_
  placed_of0
  refine next_ok (by decide) fun i i0 i1 => ?_
  placed_of0
  refine fr_draw n0 n1 i0 i1 fun a ha => ?_
  placed_of0
  refine next_ok (by decide) fun n n0 n1 => ?_
  placed_of0
  refine next_ok (by decide) fun i i0 i1 => ?_
  placed_of0
  refine fr_draw n0 n1 i0 i1 fun b hb => ?_
  placed_of0
  refine next_ok (by decide) fun n n0 n1 => ?_
  placed_of0
  refine next_ok (by decide) fun i i0 i1 => ?_
  placed_of0
  refine fr_draw n0 n1 i0 i1 fun d hd => ?_
  placed_of0
  refine next_ok (by decide) fun n n0 n1 => ?_
  placed_of0
  refine next_ok (by decide) fun i i0 i1 => ?_
  placed_of0
  refine fr_draw n0 n1 i0 i1 fun f hf => ?_
  placed_of0
  have za := ha.z
  have zb := hb.z
  have zd := hd.z
  have zf := hf.z
  placed_of1
  have z23 : bz 4 (dv 2 3) := ⟨by unfold sm; decide +kernel, by decide +kernel⟩
  rw [lt23]
  kct_strs
  refine sp_by_fraction (m := 4) (k := 4) (l := 4) hN hB za zb z23 (by decide) (by decide) ?_
  placed_of1
  rw [lit01, eqv_dr]
  have hl : ¬ (d = 0 ∧ f = 0) → d * d - f * f * C ≠ 0 := low_ne hN
  have h3 : (d = 0 ∧ f = 0) ∨ d ≠ 0 ∨ (d = 0 ∧ f ≠ 0) := by
    by_cases h1 : d = 0
    · by_cases h2 : f = 0
      · exact .inl ⟨h1, h2⟩
      · exact .inr (.inr ⟨h1, h2⟩)
    · exact .inr (.inl h1)
  rcases h3 with h3 | h3 | h3
  case' inl =>
    (rw [decide_eq_true h3.1]
     placed_of0
     rw [lit01, eqv_dr, decide_eq_true h3.2])
  case' inr.inl =>
    (rw [decide_eq_false h3]
     have hdf : ¬ (d = 0 ∧ f = 0) := fun z => h3 z.1)
  case' inr.inr =>
    (rw [decide_eq_true h3.1]
     placed_of0
     rw [lit01, eqv_dr, decide_eq_false h3.2]
     have hdf : ¬ (d = 0 ∧ f = 0) := fun z => h3.2 z.2)
  case' inr.inl | inr.inr =>
    (placed_of0
     have hl := hl hdf
     have hlb : bz 30 (d * d - f * f * C) := bz_mono (by dl_puts) (by omega)
     have b1 := bz_over zd hlb hl
     have b2 := bz_over zf hlb hl
     refine sp_over_root (k := 4) (m := 4) hN hB za zb zd zf (by decide) (by decide) hdf ?_
     placed_of0
     refine sp_times_root (k := 800) (l := 61) hN hB (bz_mono (by dl_puts) (by omega)) (bz_mono (by dl_puts) (by omega)) (bz_mono zd (by decide)) (bz_mono zf (by decide)) (by decide) (by decide) ?_
     rw [back_a hl, back_b hl])
  all_goals
    (repeat ((fail_if_success (with_reducible show forW _ _ _ _ _)); first | tb_rel | tb_start)
     refine forW_inv (I := fun ρ => ∃ s8 s9 s10 s11 s12, ρ = [.va wD, .va (dr C), .va (dr a), .va (dr b), .va (dr d), .va (dr f), .va (nrm a b C), .va (nrm d f C), s8, s9, s10, s11, s12, .no, .no]) (Due C) ?_ ?_ _ _ ⟨_, _, _, _, _, rfl⟩ ?_
     · rintro d ρ nx' ct' ⟨X, Y, n, i, n', i', rfl, g1, g2, g3, g4⟩ ⟨s8, s9, s10, s11, s12, rfl⟩ hnx hct
       placed_of0
       refine is_root_nrm hN ?_
       placed_of0
       refine same_ok g3 g1 rfl (by decide) ?_
       placed_of0
       refine same_ok g4 g2 rfl (by decide) ?_
       placed_of0
       rw [eqv_int]
       by_cases hY : Y = 0
       · rw [decide_eq_true ((rv_zero g2).mpr hY)]
         placed_of0
         exact hnx _ ⟨_, _, _, _, _, rfl⟩
       · rw [decide_eq_false (fun z => hY ((rv_zero g2).mp z))]
         placed_of0
         rw [trd_same hY, eqv_dr, decide_eq_true rfl]
         placed_of0
         exact hnx _ ⟨_, _, _, _, _, rfl⟩
     · rintro ρ ⟨s8, s9, s10, s11, s12, rfl⟩
       placed_of0
       refine root_of_c hN hB ?_
       placed_of0
       refine root_of_c hN hB ?_
       placed_of0
       refine sp_times_root (m := 4) (k := 1) (l := 1) hN hB bz_0 bz_1 bz_0 bz_1 (by decide) (by decide) ?_
       placed_of0
       refine sp_plain ?_
       placed_of0
       rw [show (0 : Rat) * 0 + 1 * 1 * C = C by grind, show (0 : Rat) * 1 + 1 * 0 = 0 by grind, ← nrm_0 C C]
       refine sp_minus_root (m := 4) (k := 4) hN hB hB (bz_mono bz_0 (by decide)) hB (bz_mono bz_0 (by decide)) (by decide) (by decide) ?_
       placed_of0
       rw [show C - C = 0 by grind, show (0 : Rat) - 0 = 0 by grind, nrm_0]
       refine sp_sign_of_root bz_0 bz_0 bz_0 (by decide) ?_
       rw [show sg1 0 0 0 = 0 from rfl]
       placed_of0
       refine root_of_94 ?_
       placed_of0
       rw [lt32]
       refine sp_plain ?_
       placed_of0
       refine br_e ?_
       placed_of0
       refine br_f ?_
       placed_of0
       refine br_g ?_
       placed_of0
       refine br_none ?_
       placed_of0
       refine br_1 ?_
       placed_of0
       exact h
     · repeat (refine List.forall_mem_cons.mpr ⟨by first
         | exact due_of (by with_reducible assumption) (by with_reducible assumption) (by grind) (by grind) (by decide) (by decide) (m := 100) (ka := 100) (bz_mono (by dl_puts) (by omega)) (bz_mono (by dl_puts) (by omega)) (by decide) (by decide)
         | exact due_of (rv_dr za) (rv_dr zb) rfl rfl (by decide) (by decide) za zb (by decide) (by decide), ?_⟩)
       exact fun _ h => absurd h List.not_mem_nil)
end
local macro_rules | `(tactic| pv_meta) => `(tactic| exact rv_23)

section
variable {k l n ka kb kc kd ke kf : Nat} {a b c d e f g m p q r s t u v x y z p' q' r' s' C C' X Y M N m1 p1 m2 p2 n1 q1 n2 q2 : Rat} {Q : D → Prop}
/-! ### the same points, whichever curve comes first -/
theorem root_eq (hx : 0 ≤ x) (hy : 0 ≤ y) (h : x * x = y * y) : x = y := by
  have h1 : (x - y) * (x + y) = 0 := by grind
  rcases Rat.mul_eq_zero.mp h1 with z | z
  · grind
  · grind
theorem mul_can (h0 : z ≠ 0) (h : x * z = y * z) : x = y := by
  have h1 : (x - y) * z = 0 := by grind
  rcases Rat.mul_eq_zero.mp h1 with w | w
  · grind
  · exact absurd w h0
theorem ex_uniq (a0 : a ≠ 0) (h : Ex a b c m1 p1 m2 p2 C) (h' : Ex a b c n1 q1 n2 q2 C') : m1 = n1 ∧ p1 = q1 ∧ m2 = n2 ∧ p2 = q2 ∧ C = C' := by
  obtain ⟨m, P, e1, e2, e3, e4⟩ := h
  obtain ⟨m', P', e1', e2', e3', e4'⟩ := h'
  have hm : m = m' := mul_can (z := 2 * a) (by grind) (by rw [e1, e1'])
  have hP : P = P' := root_eq (Rat.le_of_lt e2) (Rat.le_of_lt e2') (mul_can (z := 4 * (a * a)) (by
    intro z
    rcases Rat.mul_eq_zero.mp z with w | w
    · exact absurd w (by decide)
    · rcases Rat.mul_eq_zero.mp w with w | w <;> exact a0 w) (by rw [e3, e3']))
  subst hm hP
  rcases e4 with ⟨s, s0, s1, s2, s3, s4, s5, s6⟩ | ⟨s1, s2, s3, s4, s5, s6⟩
  · rcases e4' with ⟨s', s0', s1', s2', s3', s4', s5', s6'⟩ | ⟨s1', _⟩
    · have : s = s' := root_eq s0 s0' (by rw [← s1, s1'])
      subst this
      subst s2 s3 s4 s5 s6 s2' s3' s4' s5' s6'
      exact ⟨rfl, rfl, rfl, rfl, rfl⟩
    · exact absurd s1.symm (s1'.2 s)
  · rcases e4' with ⟨s', s0', s1', _⟩ | ⟨s1', s2', s3', s4', s5', s6'⟩
    · exact absurd s1'.symm (s1.2 s')
    · subst s2 s3 s4 s5 s6 s2' s3' s4' s5' s6'
      exact ⟨rfl, rfl, rfl, rfl, rfl⟩
theorem qa_ne (a b : Rat) : QA a b ≠ 0 := by
  unfold QA
  split
  · decide
  · exact one_pos _
theorem lc1_uniq (h : Lc1 a b c d e f p r) (h' : Lc1 a b c d e f p' r') : p = p' ∧ r = r' := by
  obtain ⟨m, e1, e2⟩ := h
  obtain ⟨m', e1', e2'⟩ := h'
  have hq := qa_ne a b
  have hm : m = m' := mul_can (z := 2 * QA a b) (by grind) (by rw [e1, e1'])
  subst hm
  rcases e2 with ⟨b0, rfl, rfl⟩ | ⟨b0, rfl, rfl⟩ <;> rcases e2' with ⟨b0', rfl, rfl⟩ | ⟨b0', rfl, rfl⟩
  · exact ⟨rfl, rfl⟩
  · exact absurd b0 b0'
  · exact absurd b0' b0
  · exact ⟨rfl, rfl⟩
theorem lc2_uniq {P R S P' R' S' W W' : Rat} (h : Lc2 a b c d e f p q r s p' q' r' s' C) (h' : Lc2 a b c d e f P W R S P' W' R' S' C') : pn p q r s C = pn P W R S C' ∧ pn p' q' r' s' C = pn P' W' R' S' C' := by
  obtain ⟨m1, p1, m2, p2, e1, e2⟩ := h
  obtain ⟨n1, q1, n2, q2, e1', e2'⟩ := h'
  obtain ⟨rfl, rfl, rfl, rfl, rfl⟩ := ex_uniq (qa_ne a b) e1 e1'
  rcases e2 with ⟨b0, ⟨rfl, rfl, rfl, rfl⟩, rfl, rfl, rfl, rfl⟩ | ⟨b0, ⟨rfl, rfl, rfl, rfl⟩, rfl, rfl, rfl, rfl⟩ <;> rcases e2' with ⟨b0', ⟨rfl, rfl, rfl, rfl⟩, rfl, rfl, rfl, rfl⟩ | ⟨b0', ⟨rfl, rfl, rfl, rfl⟩, rfl, rfl, rfl, rfl⟩
  · exact ⟨rfl, rfl⟩
  · exact absurd b0 b0'
  · exact absurd b0' b0
  · exact ⟨rfl, rfl⟩
/-- the line of two circles tells of both the same -/
theorem q_other (g0 : g ≠ 0) (hab : ¬ (a - d = 0 ∧ b - e = 0)) (hg : g = fst' (a - d) (b - e)) : QB ((a - d) / g) ((b - e) / g) ((c - f) / g) a b = QB ((a - d) / g) ((b - e) / g) ((c - f) / g) d e ∧ QC ((b - e) / g) ((c - f) / g) a b c = QC ((b - e) / g) ((c - f) / g) d e f := by
  obtain ⟨A, eA⟩ : ∃ A, A = (a - d) / g := ⟨_, rfl⟩
  obtain ⟨B, eB⟩ : ∃ A, A = (b - e) / g := ⟨_, rfl⟩
  obtain ⟨K, eC⟩ : ∃ A, A = (c - f) / g := ⟨_, rfl⟩
  have h1 : a - d = A * g := by rw [eA]; exact (Rat.div_mul_cancel g0).symm
  have h2 : b - e = B * g := by rw [eB]; exact (Rat.div_mul_cancel g0).symm
  have h3 : c - f = K * g := by rw [eC]; exact (Rat.div_mul_cancel g0).symm
  rw [← eA, ← eB, ← eC]
  have h4 : d = a - A * g := by grind
  have h5 : e = b - B * g := by grind
  have h6 : f = c - K * g := by grind
  unfold QB QC
  by_cases B0 : B = 0
  · have hA : A = 1 := by
      have hb0 : b - e = 0 := by rw [h2, B0]; grind
      have ha0 : a - d ≠ 0 := fun z => hab ⟨z, hb0⟩
      have : g = a - d := by rw [hg]; unfold fst'; rw [if_neg ha0]
      rw [eA, this]
      grind
    rw [if_pos B0, if_pos B0, if_pos B0, if_pos B0]
    rw [h4, h5, h6, B0, hA]
    constructor <;> grind
  · rw [if_neg B0, if_neg B0, if_neg B0, if_neg B0]
    have i1 : -A / B * B = -A := Rat.div_mul_cancel B0
    have i2 : -K / B * B = -K := Rat.div_mul_cancel B0
    generalize -A / B = U at *
    generalize -K / B = V at *
    rw [h4, h5, h6]
    constructor <;> grind
end

/-! ### how many points there are -/
theorem w_tab3 {Q : D → Prop} {A B E z : Str} {i j l c : Int} {w : En → M D} {ρ : En} (hm : ∀ K : D → Prop, K (.str z) → w ρ K) (q : Q (.int (if A = z then i else if B = z then j else if E = z then l else c))) : eTab3 A B E i j l c w ρ Q := hm _ q
def TLM : MS := (sSeq (sIf (mAnd (eT (eOp fEq (eOp fIx (eVar 0) (eC (.int 0))) (eC (.int 1)))) (eT (eOp fEq (eOp fIx (eVar 1) (eC (.int 0))) (eC (.int 1))))) (sSeq (sAsg (eTup (aCons (eCallN 1 F_middle_of (aCons (eVar 0) aNil)) (aCons (eCallN 1 F_middle_of (aCons (eVar 1) aNil)) aNil))) (mgTup 2 (mgCons (mgTup 2 (mgCons (mgName 4) (mgCons (mgName 5) mgNil))) (mgCons (mgTup 2 (mgCons (mgName 6) (mgCons (mgName 7) mgNil))) mgNil)))) (sSeq (sAsg (eCallN 2 F__law_plus (aCons (eCallN 2 F__law_by (aCons (eCallN 2 F__law_plus (aCons (eVar 4) (aCons (eTup (aCons (eOp fSub (eC (.int 0)) (eOp fIx (eVar 6) (eC (.int 0)))) (aCons (eOp fIx (eVar 6) (eC (.int 1))) aNil))) aNil))) (aCons (eCallN 2 F__law_plus (aCons (eVar 4) (aCons (eTup (aCons (eOp fSub (eC (.int 0)) (eOp fIx (eVar 6) (eC (.int 0)))) (aCons (eOp fIx (eVar 6) (eC (.int 1))) aNil))) aNil))) aNil))) (aCons (eCallN 2 F__law_by (aCons (eCallN 2 F__law_plus (aCons (eVar 5) (aCons (eTup (aCons (eOp fSub (eC (.int 0)) (eOp fIx (eVar 7) (eC (.int 0)))) (aCons (eOp fIx (eVar 7) (eC (.int 1))) aNil))) aNil))) (aCons (eCallN 2 F__law_plus (aCons (eVar 5) (aCons (eTup (aCons (eOp fSub (eC (.int 0)) (eOp fIx (eVar 7) (eC (.int 0)))) (aCons (eOp fIx (eVar 7) (eC (.int 1))) aNil))) aNil))) aNil))) aNil))) (mgName 8)) (sSeq (sPar 9 10 (aCons (eCallN 1 F_radius_of (aCons (eVar 0) aNil)) (aCons (eCallN 1 F_radius_of (aCons (eVar 1) aNil)) aNil))) (sSeq (sAsg (eCallN 2 F__law_plus (aCons (eVar 8) (aCons (eCallN 2 F__law_by (aCons (eTup (aCons (eUn fNeg (eC (.int 1))) (aCons (eC (.int 1)) aNil))) (aCons (eCallN 2 F__law_plus (aCons (eVar 9) (aCons (eVar 10) aNil))) aNil))) aNil))) (mgName 11)) (sSeq (sPar 12 13 (aCons (eCallN 3 F__law_rooted (aCons (eVar 11) (aCons (eTup (aCons (eUn fNeg (eC (.int 2))) (aCons (eC (.int 1)) aNil))) (aCons (eCallN 2 F__law_by (aCons (eVar 9) (aCons (eVar 10) aNil))) aNil)))) (aCons (eCallN 3 F__law_rooted (aCons (eVar 11) (aCons (eTup (aCons (eC (.int 2)) (aCons (eC (.int 1)) aNil))) (aCons (eCallN 2 F__law_by (aCons (eVar 9) (aCons (eVar 10) aNil))) aNil)))) aNil))) (sSeq (sAsg (eIf (eT (eOp fGt (eVar 12) (eC (.int 0)))) (eC (.str "apart")) (eIf (eT (eOp fEq (eVar 12) (eC (.int 0)))) (eC (.str "touch")) (eIf (eT (eOp fGt (eVar 13) (eC (.int 0)))) (eC (.str "cross")) (eIf (eT (eOp fEq (eVar 13) (eC (.int 0)))) (eC (.str "touch within")) (eIf (eT (eOp fLt (eCallN 1 F__law_side (aCons (eCallN 2 F__law_plus (aCons (eVar 9) (aCons (eTup (aCons (eOp fSub (eC (.int 0)) (eOp fIx (eVar 10) (eC (.int 0)))) (aCons (eOp fIx (eVar 10) (eC (.int 1))) aNil))) aNil))) aNil)) (eC (.int 0)))) (eC (.str "within")) (eC (.str "round"))))))) (mgName 14)) (sSeq (sIf (mOr (eT (eOp fNe (eCallN 2 F_touch_kind (aCons (eVar 0) (aCons (eVar 1) aNil))) (eVar 14))) (eT (eOp fNe (eCall fLen (aCons (eVar 2) aNil)) (eTab3 "cross" "touch" "touch within" 2 1 1 0 (eVar 14))))) (sRet (eC (.bool false))) sNext) (sRet (eOp fEq (eCallN 2 F_touch_kind (aCons (eVar 0) (aCons (eVar 0) aNil))) (eC (.str "same"))))))))))) sNext) (sSeq (sIf (mAnd (eT (eOp fEq (eOp fIx (eVar 0) (eC (.int 0))) (eC (.int 0)))) (eT (eOp fEq (eOp fIx (eVar 1) (eC (.int 0))) (eC (.int 0))))) (sSeq (sAsg (eCallN 2 F__law_plus (aCons (eCallN 2 F__law_by (aCons (eOp fIx (eVar 0) (eC (.int 1))) (aCons (eOp fIx (eVar 1) (eC (.int 2))) aNil))) (aCons (eCallN 2 F__law_by (aCons (eTup (aCons (eUn fNeg (eC (.int 1))) (aCons (eC (.int 1)) aNil))) (aCons (eCallN 2 F__law_by (aCons (eOp fIx (eVar 1) (eC (.int 1))) (aCons (eOp fIx (eVar 0) (eC (.int 2))) aNil))) aNil))) aNil))) (mgName 15)) (sRet (eOp fEq (eCall fLen (aCons (eVar 2) aNil)) (eIf (eT (eOp fEq (eOp fIx (eVar 15) (eC (.int 0))) (eC (.int 0)))) (eC (.int 0)) (eC (.int 1)))))) sNext) (sSeq (sAsg (eIf (eT (eOp fEq (eOp fIx (eVar 0) (eC (.int 0))) (eC (.int 0)))) (eTup (aCons (eVar 0) (aCons (eVar 1) aNil))) (eTup (aCons (eVar 1) (aCons (eVar 0) aNil)))) (mgTup 2 (mgCons (mgName 16) (mgCons (mgName 17) mgNil)))) (sSeq (sAsg (eCallN 1 F_middle_of (aCons (eVar 17) aNil)) (mgTup 2 (mgCons (mgName 4) (mgCons (mgName 5) mgNil)))) (sSeq (sAsg (eCallN 2 F__law_plus (aCons (eCallN 2 F__law_by (aCons (eOp fIx (eVar 16) (eC (.int 1))) (aCons (eVar 4) aNil))) (aCons (eCallN 2 F__law_plus (aCons (eCallN 2 F__law_by (aCons (eOp fIx (eVar 16) (eC (.int 2))) (aCons (eVar 5) aNil))) (aCons (eOp fIx (eVar 16) (eC (.int 3))) aNil))) aNil))) (mgName 18)) (sSeq (sAsg (eCallN 2 F__law_plus (aCons (eCallN 2 F__law_by (aCons (eOp fIx (eVar 16) (eC (.int 1))) (aCons (eOp fIx (eVar 16) (eC (.int 1))) aNil))) (aCons (eCallN 2 F__law_by (aCons (eOp fIx (eVar 16) (eC (.int 2))) (aCons (eOp fIx (eVar 16) (eC (.int 2))) aNil))) aNil))) (mgName 19)) (sSeq (sAsg (eCallN 1 F__law_side (aCons (eCallN 2 F__law_plus (aCons (eCallN 2 F__law_by (aCons (eCallN 1 F_radius_of (aCons (eVar 17) aNil)) (aCons (eVar 19) aNil))) (aCons (eCallN 2 F__law_by (aCons (eTup (aCons (eUn fNeg (eC (.int 1))) (aCons (eC (.int 1)) aNil))) (aCons (eCallN 2 F__law_by (aCons (eVar 18) (aCons (eVar 18) aNil))) aNil))) aNil))) aNil)) (mgName 8)) (sRet (eOp fEq (eCall fLen (aCons (eVar 2) aNil)) (eOp fAdd (eC (.int 1)) (eVar 8)))))))))))
section
variable {k l m n ka kb kc kd ke kf : Nat} {a b c d e f g p q r s t u v x y z p' q' r' s' C C' X Y M N : Rat} {Q : D → Prop} {s3 : Sl} {ds : List D} {nx bk ct : En → Prop}
abbrev EM (A B : D) (ds : List D) (s3 : Sl) : En := [.va A, .va B, .va (.list ds), s3, .no, .no, .no, .no, .no, .no, .no, .no, .no, .no, .no, .no, .no, .no, .no, .no, .no, .no]
theorem int_eqB {i j : Int} (e : i = j) (h : Q (.bool true)) : fEq (.int i) (.int j) Q := ⟨okD_int _, okD_int _, by rw [eqv_int, decide_eq_true e]; exact h⟩
theorem tail_ll (h1 : LnOk a b c) (h2 : LnOk d e f) (hN : (ds.length : Int) = if a * e - b * d = 0 then 0 else 1) (h : Q (.bool true)) : TLM (EM (ln a b c) (ln d e f) ds s3) ⟨nx, Q, bk, ct⟩ := by
  obtain ⟨_, b1, b2, b3⟩ := h1
  obtain ⟨_, b4, b5, b6⟩ := h2
  unfold TLM EM
  placed_of1
  rename_i x y hv
  have hz := rv_zero hv
  rw [eqv_int]
  by_cases h0 : a * e - b * d = 0
  · rw [decide_eq_true (hz.mpr (by grind))]
    placed_of0
    rw [if_pos h0] at hN
    rw [eqv_int, decide_eq_true hN]
    exact h
  · rw [decide_eq_false (fun z => h0 (by have := hz.mp z; grind))]
    placed_of0
    rw [if_neg h0] at hN
    rw [eqv_int, decide_eq_true hN]
    exact h
theorem tail_lc (h1 : LnOk a b c) (h2 : CiOk d e f) (hN : (ds.length : Int) = 1 + sgn (dsc a b c d e f)) (h : Q (.bool true)) : TLM (EM (ln a b c) (ci d e f) ds s3) ⟨nx, Q, bk, ct⟩ := by
  obtain ⟨_, b1, b2, b3⟩ := h1
  obtain ⟨b4, b5, b6⟩ := h2.bs
  unfold TLM EM
  placed_of1
  refine middle_ok (k := 5) b4 b5 (by decide) ?_
  have e1 : bz 7 (-d / 2) := bz_over (bz_neg b4) bz_2 (by decide)
  have e2 : bz 7 (-e / 2) := bz_over (bz_neg b5) bz_2 (by decide)
  placed_of1
  refine radius_ok (k := 10) (bz_mono b4 (by decide)) (bz_mono b5 (by decide)) b6 (by decide) ?_
  have e3 : bz 40 (-d / 2 * (-d / 2) + -e / 2 * (-e / 2) - f) := bz_mono (by dl_puts) (by decide)
  placed_of1
  rw [eqv_int, decide_eq_true (by rw [hN]; unfold dsc; congr 2; grind)]
  exact h
theorem tail_cl (h1 : LnOk a b c) (h2 : CiOk d e f) (hN : (ds.length : Int) = 1 + sgn (dsc a b c d e f)) (h : Q (.bool true)) : TLM (EM (ci d e f) (ln a b c) ds s3) ⟨nx, Q, bk, ct⟩ := by
  obtain ⟨_, b1, b2, b3⟩ := h1
  obtain ⟨b4, b5, b6⟩ := h2.bs
  unfold TLM EM
  placed_of1
  refine middle_ok (k := 5) b4 b5 (by decide) ?_
  have e1 : bz 7 (-d / 2) := bz_over (bz_neg b4) bz_2 (by decide)
  have e2 : bz 7 (-e / 2) := bz_over (bz_neg b5) bz_2 (by decide)
  placed_of1
  refine radius_ok (k := 10) (bz_mono b4 (by decide)) (bz_mono b5 (by decide)) b6 (by decide) ?_
  have e3 : bz 40 (-d / 2 * (-d / 2) + -e / 2 * (-e / 2) - f) := bz_mono (by dl_puts) (by decide)
  placed_of1
  rw [eqv_int, decide_eq_true (by rw [hN]; unfold dsc; congr 2; grind)]
  exact h
def kcount (w : Str) : Int := if "cross" = w then 2 else if "touch" = w then 1 else if "touch within" = w then 1 else 0
theorem kind_sides (h1 : 0 < rad a b c) (h2 : 0 < rad d e f) : (kindw a b c d e f = "cross" ∧ sg1 (rst a b c d e f) (-2) (rad a b c * rad d e f) = -1 ∧ sg1 (rst a b c d e f) 2 (rad a b c * rad d e f) = 1) ∨ (kindw a b c d e f = "touch" ∧ sg1 (rst a b c d e f) (-2) (rad a b c * rad d e f) = 0) ∨ (kindw a b c d e f = "apart" ∧ sg1 (rst a b c d e f) (-2) (rad a b c * rad d e f) = 1) ∨ (kindw a b c d e f = "touch within" ∧ sg1 (rst a b c d e f) (-2) (rad a b c * rad d e f) = -1 ∧ sg1 (rst a b c d e f) 2 (rad a b c * rad d e f) = 0) ∨
    (sg1 (rst a b c d e f) (-2) (rad a b c * rad d e f) = -1 ∧ sg1 (rst a b c d e f) 2 (rad a b c * rad d e f) = -1 ∧ (kindw a b c d e f = "within" ∧ rad a b c - rad d e f < 0 ∨ kindw a b c d e f = "round" ∧ ¬ rad a b c - rad d e f < 0)) := by
  have hp : rad a b c * rad d e f ≠ 0 := by
    have := Rat.mul_pos h1 h2
    grind
  have e1 : dcc a b c d e f = rst a b c d e f * rst a b c d e f - 4 * (rad a b c * rad d e f) := rfl
  have f1 : rst a b c d e f * rst a b c d e f - -2 * -2 * (rad a b c * rad d e f) = dcc a b c d e f := by rw [e1]; grind
  have f2 : rst a b c d e f * rst a b c d e f - 2 * 2 * (rad a b c * rad d e f) = dcc a b c d e f := by rw [e1]; grind
  have s1 := sg1_def (a := rst a b c d e f) (b := -2) (c := rad a b c * rad d e f) _ (-1) rfl (by rw [if_neg hp]; rfl)
  have s2 := sg1_def (a := rst a b c d e f) (b := 2) (c := rad a b c * rad d e f) _ 1 rfl (by rw [if_neg hp]; rfl)
  rw [f1] at s1
  rw [f2] at s2
  have hpp : 0 < rad a b c * rad d e f := Rat.mul_pos h1 h2
  have hz : rst a b c d e f = 0 → dcc a b c d e f < 0 := fun z => by rw [e1, z]; grind
  unfold kindw
  generalize sg1 (rst a b c d e f) (-2) (rad a b c * rad d e f) = O at *
  generalize sg1 (rst a b c d e f) 2 (rad a b c * rad d e f) = I at *
  generalize rst a b c d e f = R at *
  generalize dcc a b c d e f = D at *
  have t1 := @sgn_pos R
  have t2 := @sgn_neg R
  have t3 := @sgn_pos D
  have t4 := @sgn_neg D
  by_cases g1 : D < 0
  · rw [if_pos g1]
    refine .inl ⟨rfl, ?_⟩
    rw [t4 g1] at s1 s2
    by_cases g2 : R = 0
    · rw [g2] at s1 s2
      exact ⟨s1, s2⟩
    · by_cases g3 : 0 < R
      · rw [t1 g3] at s1 s2
        exact ⟨s1, s2⟩
      · rw [t2 (by grind)] at s1 s2
        exact ⟨s1, s2⟩
  rw [if_neg g1]
  have g2 : R ≠ 0 := fun z => g1 (hz z)
  by_cases g3 : 0 < R
  · rw [if_pos g3]
    rw [t1 g3] at s1 s2
    by_cases g4 : D = 0
    · rw [if_pos g4]
      rw [g4] at s1
      exact .inr (.inl ⟨rfl, s1⟩)
    · rw [if_neg g4]
      rw [t3 (by grind)] at s1
      exact .inr (.inr (.inl ⟨rfl, s1⟩))
  · rw [if_neg g3]
    rw [t2 (by grind)] at s1 s2
    by_cases g4 : D = 0
    · rw [if_pos g4]
      rw [g4] at s1 s2
      exact .inr (.inr (.inr (.inl ⟨rfl, s1, s2⟩)))
    · rw [if_neg g4]
      rw [t3 (by grind)] at s1 s2
      refine .inr (.inr (.inr (.inr ⟨s1, s2, ?_⟩)))
      by_cases g5 : rad a b c - rad d e f < 0
      · rw [if_pos g5]; exact .inl ⟨rfl, g5⟩
      · rw [if_neg g5]; exact .inr ⟨rfl, g5⟩
local macro_rules | `(tactic| pv_meta) => `(tactic| ((with_reducible apply rv_neg); (with_reducible apply rv_dr); (dl_puts)))
theorem tail_cc (h0 : ¬ (a = d ∧ b = e ∧ c = f)) (h1 : CiOk a b c) (h2 : CiOk d e f) (hN : (ds.length : Int) = kcount (kindw a b c d e f)) (h : Q (.bool true)) : TLM (EM (ci a b c) (ci d e f) ds s3) ⟨nx, Q, bk, ct⟩ := by
  obtain ⟨b1, b2, b3⟩ := h1.bs
  obtain ⟨b4, b5, b6⟩ := h2.bs
  have e1 : bz 7 (-d / 2) := bz_over (bz_neg b4) bz_2 (by decide)
  have e2 : bz 7 (-e / 2) := bz_over (bz_neg b5) bz_2 (by decide)
  have e4 : bz 7 (-a / 2) := bz_over (bz_neg b1) bz_2 (by decide)
  have e5 : bz 7 (-b / 2) := bz_over (bz_neg b2) bz_2 (by decide)
  have e3 : bz 40 (rad d e f) := bz_mono (by unfold rad; dl_puts) (by decide)
  have e6 : bz 40 (rad a b c) := bz_mono (by unfold rad; dl_puts) (by decide)
  have hk := kind_sides h1.2.2.2 h2.2.2.2
  have er : rst a b c d e f = gap2 a b d e - (rad a b c + rad d e f) := rfl
  unfold TLM EM
  placed_of1
  refine middle_ok (k := 5) b1 b2 (by decide) ?_
  placed_of1
  refine middle_ok (k := 5) b4 b5 (by decide) ?_
  placed_of1
  refine radius_ok (k := 10) (bz_mono b1 (by decide)) (bz_mono b2 (by decide)) b3 (by decide) ?_
  rw [show -a / 2 * (-a / 2) + -b / 2 * (-b / 2) - c = rad a b c from rfl]
  placed_of1
  refine radius_ok (k := 10) (bz_mono b4 (by decide)) (bz_mono b5 (by decide)) b6 (by decide) ?_
  rw [show -d / 2 * (-d / 2) + -e / 2 * (-e / 2) - f = rad d e f from rfl]
  placed_of1
  rw [show (-a / 2 + -(-d / 2)) * (-a / 2 + -(-d / 2)) + (-b / 2 + -(-e / 2)) * (-b / 2 + -(-e / 2)) + -1 * (rad a b c + rad d e f) = rst a b c d e f by rw [er]; unfold gap2; grind]
  rcases hk with ⟨w, o, i⟩ | ⟨w, o⟩ | ⟨w, o⟩ | ⟨w, o, i⟩ | ⟨o, i, ⟨w, g⟩ | ⟨w, g⟩⟩
  case' inl =>
    (rw [o, i]
     placed_of0)
  case' inr.inl =>
    (rw [o]
     placed_of0)
  case' inr.inr.inl =>
    (rw [o]
     placed_of0)
  case' inr.inr.inr.inl =>
    (rw [o, i]
     placed_of0)
  case' inr.inr.inr.inr.inl =>
    (rw [o, i]
     placed_of1
     have es : decide (sgn (rad a b c + -rad d e f) < 0) = decide (rad a b c - rad d e f < 0) := by
       rw [show rad a b c + -rad d e f = rad a b c - rad d e f by grind]
       exact sgn_lt0 _
     rw [es, decide_eq_true g]
     placed_of0)
  case' inr.inr.inr.inr.inr =>
    (rw [o, i]
     placed_of1
     have es : decide (sgn (rad a b c + -rad d e f) < 0) = decide (rad a b c - rad d e f < 0) := by
       rw [show rad a b c + -rad d e f = rad a b c - rad d e f by grind]
       exact sgn_lt0 _
     rw [es, decide_eq_false g]
     placed_of0)
  all_goals
    (refine touch_ok h0 b1 b2 b3 b4 b5 b6 ?_
     rw [w] at hN ⊢
     placed_of0
     · exact okD_str (by decide +kernel)
     · exact okD_str (by decide +kernel)
     rw [eqv_str]
     placed_of0
     refine w_tab3 (fun K hK => by placed_of0; exact hK) ?_
     placed_of0
     rw [show (ds.length : Int) = _ from hN]
     unfold kcount
     rw [eqv_int, decide_eq_true rfl]
     placed_of0
     refine touch_same ?_
     placed_of0
     · exact okD_str (by decide +kernel)
     · exact okD_str (by decide +kernel)
     rw [eqv_str]
     exact h)
end
local macro_rules | `(tactic| pv_meta) => `(tactic| ((with_reducible apply rv_neg); (with_reducible apply rv_dr); (dl_puts)))

/-! ### where curves meet -/
structure Pnt (A B P : D) : Prop where
  ex : ∃ p q r s C, P = pn p q r s C ∧ Nsq C
  oa : ∀ Q : D → Prop, Q (.int 0) → F__law_sign [A, P] Q
  ob : ∀ Q : D → Prop, Q (.int 0) → F__law_sign [B, P] Q
inductive Gd (A B : D) : List D → Prop where
  | g0 : Gd A B []
  | g1 {P : D} (h : Pnt A B P) : Gd A B [P]
  | g2 {P P' : D} (h : Pnt A B P) (h' : Pnt A B P') (hl : ∀ Q : D → Prop, Q (.int (-1)) → F_compare_points [P, P'] Q) : Gd A B [P, P']
theorem Gd.mem {A B : D} {ds : List D} (h : Gd A B ds) : ∀ d ∈ ds, Pnt A B d := by
  intro d hd
  cases h with
  | g0 => cases hd
  | g1 h => rw [List.mem_singleton.mp hd]; exact h
  | g2 h h' =>
    simp only [List.mem_cons, List.not_mem_nil, or_false] at hd
    rcases hd with rfl | rfl
    · exact h
    · exact h'
theorem Pnt.ok {A B P : D} (h : Pnt A B P) : (okD P ∧ P.depth ≤ 60) ∧ PyData.eqv P P = true := by
  obtain ⟨p, q, r, s, C, rfl, _⟩ := h.ex
  refine ⟨⟨⟨rfl, rfl⟩, Nat.le_of_ble_eq_true rfl⟩, ?_⟩
  show (PyData.eqv (nrm p q C) (nrm p q C) && (PyData.eqv (nrm r s C) (nrm r s C) && true)) = true
  rw [eqv_rt, eqv_rt]
  rfl
section
variable {k l m n ka kb kc kd ke kf : Nat} {a b c d e f g p q r s t u v x y z p' q' r' s' C C' X Y M N : Rat} {Q : D → Prop} {s3 : Sl} {ds : List D} {nx bk ct : En → Prop} {A B : D}
theorem on_ln (h : LnOk a b c) (hp : PB p q r s C) (o : OnL a b c p q r s) : ∀ Q : D → Prop, Q (.int 0) → F__law_sign [ln a b c, pn p q r s C] Q := by
  intro Q hQ
  obtain ⟨_, b1, b2, b3⟩ := h
  obtain ⟨hC, M, P, R, hm, hm1, hm2, hm3, bp, bq, br, bs, bC⟩ := hp
  refine lsign_ln (k := M + P + 81) (l := 6) (m := R) hC (bz_mono bp (by omega)) (bz_mono bq (by omega)) (bz_mono br (by omega)) (bz_mono bs (by omega)) bC (bz_mono b1 (by decide)) (bz_mono b2 (by decide)) b3 (by omega) ?_
  rw [o.1, o.2, sg1_00]
  exact hQ
theorem on_ci (h : CiOk a b c) (hp : PB p q r s C) (o : OnC a b c p q r s C) : ∀ Q : D → Prop, Q (.int 0) → F__law_sign [ci a b c, pn p q r s C] Q := by
  intro Q hQ
  obtain ⟨b1, b2, b3⟩ := h.bs
  obtain ⟨hC, M, P, R, hm, hm1, hm2, hm3, bp, bq, br, bs, bC⟩ := hp
  refine lsign_ci (k := M + P + 81) (l := 10) (m := R) hC (bz_mono bp (by omega)) (bz_mono bq (by omega)) (bz_mono br (by omega)) (bz_mono bs (by omega)) bC (bz_mono b1 (by decide)) (bz_mono b2 (by decide)) b3 (by omega) ?_
  rw [o.1, o.2, sg1_00]
  exact hQ
theorem meet_go (hm : ∀ K : D → Prop, (∀ ds, Gd A B ds → (∀ K' : D → Prop, K' (.list ds) → F_meets [B, A] K') → (∀ s3 nx bk ct, TLM (EM A B ds s3) ⟨nx, Q, bk, ct⟩) → K (.list ds)) → F_meets [A, B] K) : F__law_meet [A, B] Q := by
  unfold F__law_meet
  placed_of0
  refine hm _ fun ds hG hS hT => ?_
  placed_of0
  refine hS _ ?_
  have hok : okD (.list ds) := okD_list fun d hd => (hG.mem d hd).ok.1
  placed_of0
  · exact hok
  · exact hok
  rw [eqv_list fun d hd => (hG.mem d hd).ok.2]
  repeat ((fail_if_success (with_reducible show forW _ _ _ _ _)); first | tb_rel | tb_start)
  have hmem := hG.mem
  cases hG
  case' g0 =>
    (refine w_kR1 (by decide) (by decide) ?_
     rw [show rngD 0 (Int.toNat ((([] : List D).length : Int) - 1)) = [] from rfl]
     repeat ((fail_if_success (with_reducible show forW _ _ _ _ _)); first | tb_rel | tb_start))
  case' g1 P h =>
    (refine w_kR1 (by show _ ≤ _; simp) (by simp) ?_
     rw [show rngD 0 (Int.toNat ((([P] : List D).length : Int) - 1)) = [] from rfl]
     repeat ((fail_if_success (with_reducible show forW _ _ _ _ _)); first | tb_rel | tb_start))
  case' g2 P P' h h' hl =>
    (refine w_kR1 (by simp) (by simp) ?_
     rw [show rngD 0 (Int.toNat ((([P, P'] : List D).length : Int) - 1)) = [.int 0] from rfl]
     repeat ((fail_if_success (with_reducible show forW _ _ _ _ _)); first | tb_rel | tb_start)
     rw [show ((0 : Int) + 1) = 1 from rfl]
     placed_of0
     refine hl _ ?_
     repeat ((fail_if_success (with_reducible show forW _ _ _ _ _)); first | tb_rel | tb_start))
  all_goals
    (refine forW_inv (I := fun ρ => ∃ s3, ρ = EM A B _ s3) (Pnt A B) ?_ ?_ _ _ ⟨_, rfl⟩ hmem
     · rintro d ρ nx' ct' hd ⟨s3, rfl⟩ hnx hct
       placed_of0
       refine hd.oa _ ?_
       placed_of0
       refine hd.ob _ ?_
       placed_of0
       obtain ⟨p, q, r, s, C, rfl, hC⟩ := hd.ex
       placed_of0
       refine is_root_nrm hC ?_
       placed_of0
       refine is_root_nrm hC ?_
       placed_of0
       exact hnx _ ⟨_, rfl⟩
     · rintro ρ ⟨s3, rfl⟩
       exact hT _ _ _ _)
theorem pnt_ll (h1 : LnOk a b c) (h2 : LnOk d e f) (hp : PB p q r s C) (o1 : OnL a b c p q r s) (o2 : OnL d e f p q r s) : Pnt (ln a b c) (ln d e f) (pn p q r s C) := ⟨⟨_, _, _, _, _, rfl, hp.1⟩, on_ln h1 hp o1, on_ln h2 hp o2⟩
theorem pnt_lc (h1 : LnOk a b c) (h2 : CiOk d e f) (hp : PB p q r s C) (o1 : OnL a b c p q r s) (o2 : OnC d e f p q r s C) : Pnt (ln a b c) (ci d e f) (pn p q r s C) := ⟨⟨_, _, _, _, _, rfl, hp.1⟩, on_ln h1 hp o1, on_ci h2 hp o2⟩
theorem pnt_cl (h1 : LnOk a b c) (h2 : CiOk d e f) (hp : PB p q r s C) (o1 : OnL a b c p q r s) (o2 : OnC d e f p q r s C) : Pnt (ci d e f) (ln a b c) (pn p q r s C) := ⟨⟨_, _, _, _, _, rfl, hp.1⟩, on_ci h2 hp o2, on_ln h1 hp o1⟩
theorem pnt_cc (h1 : CiOk a b c) (h2 : CiOk d e f) (hp : PB p q r s C) (o1 : OnC a b c p q r s C) (o2 : OnC d e f p q r s C) : Pnt (ci a b c) (ci d e f) (pn p q r s C) := ⟨⟨_, _, _, _, _, rfl, hp.1⟩, on_ci h1 hp o1, on_ci h2 hp o2⟩
/-- two lines -/
theorem cramer (h0 : a * e - b * d ≠ 0) (h1 : OnL a b c p 0 r 0) (h2 : OnL d e f p 0 r 0) (h1' : OnL a b c p' 0 r' 0) (h2' : OnL d e f p' 0 r' 0) : p = p' ∧ r = r' := by
  obtain ⟨x1, _⟩ := h1
  obtain ⟨x2, _⟩ := h2
  obtain ⟨x3, _⟩ := h1'
  obtain ⟨x4, _⟩ := h2'
  constructor
  · refine mul_can h0 ?_
    grind
  · refine mul_can h0 ?_
    grind
theorem fmeet_ll (h1 : LnOk a b c) (h2 : LnOk d e f) (h0 : a * e - b * d = 0 → Q (.list [])) (h3 : a * e - b * d ≠ 0 → ∀ p r, PB p 0 r 0 2 → OnL a b c p 0 r 0 → OnL d e f p 0 r 0 → Q (.list [pn p 0 r 0 2])) : F_meets [ln a b c, ln d e f] Q := by
  obtain ⟨_, b1, b2, b3⟩ := id h1
  obtain ⟨_, b4, b5, b6⟩ := id h2
  unfold F_meets
  placed_of0
  refine of_lines_ok b1 b2 b3 b4 b5 b6 (fun l0 => ?_) (fun l0 p r hp o1 o2 => ?_)
  · placed_of0
    refine in_order_0 ?_
    placed_of0
    exact h0 l0
  · placed_of0
    refine in_order_1 ?_
    placed_of0
    exact h3 l0 p r hp o1 o2
theorem meet_ll (h1 : LnOk a b c) (h2 : LnOk d e f) (h : Q (.bool true)) : F__law_meet [ln a b c, ln d e f] Q := by
  have es : d * b - e * a = -(a * e - b * d) := by grind
  refine meet_go fun K hK => fmeet_ll h1 h2 (fun l0 => ?_) (fun l0 p r hp o1 o2 => ?_)
  · exact hK _ .g0 (fun K' k' => fmeet_ll h2 h1 (fun _ => k') (fun z => absurd (by rw [es, l0]; grind) z)) fun _ _ _ _ => tail_ll h1 h2 (by rw [if_pos l0]; rfl) h
  · refine hK _ (.g1 (pnt_ll h1 h2 hp o1 o2)) (fun K' k' => fmeet_ll h2 h1 (fun z => absurd (by grind) l0) (fun _ p' r' hp' o1' o2' => ?_)) fun _ _ _ _ => tail_ll h1 h2 (by rw [if_neg l0]; rfl) h
    obtain ⟨rfl, rfl⟩ := cramer l0 o1 o2 o2' o1'
    exact k'
end

section
variable {k l m n ka kb kc kd ke kf : Nat} {a b c d e f g p q r s t u v x y z p' q' r' s' C C' X Y M N : Rat} {Q : D → Prop} {s3 : Sl} {ds : List D} {nx bk ct : En → Prop} {A B : D}
/-! ### a line and a circle -/
theorem fmeet_lc (h1 : LnOk a b c) (h2 : CiOk d e f)
    (h0 : dsc a b c d e f < 0 → Q (.list []))
    (h3 : dsc a b c d e f = 0 → ∀ p r, PB p 0 r 0 2 → OnL a b c p 0 r 0 → OnC d e f p 0 r 0 2 → Lc1 a b c d e f p r → Q (.list [pn p 0 r 0 2]))
    (h4 : 0 < dsc a b c d e f → ∀ p q r s p' q' r' s' C, PB p q r s C → PB p' q' r' s' C → OnL a b c p q r s → OnL a b c p' q' r' s' → OnC d e f p q r s C → OnC d e f p' q' r' s' C → Lt p q r s p' q' r' s' C → Lc2 a b c d e f p q r s p' q' r' s' C → Q (.list [pn p q r s C, pn p' q' r' s' C])) : F_meets [ln a b c, ci d e f] Q ∧ F_meets [ci d e f, ln a b c] Q := by
  obtain ⟨_, b1, b2, b3⟩ := id h1
  obtain ⟨b4, b5, b6⟩ := h2.bs
  have c1 := bz_mono (l := 12) b1 (by decide)
  have c2 := bz_mono (l := 12) b2 (by decide)
  have c3 := bz_mono (l := 17) b3 (by decide)
  constructor
  all_goals
    (unfold F_meets
     placed_of0
     refine line_circle_ok (ln_up h1) c1 c2 c3 b4 b5 b6 (fun z => ?_) (fun z p r hp o1 o2 w => ?_) (fun z p q r s p' q' r' s' C hp hp' o1 o1' o2 o2' hl w => ?_)
     · placed_of0
       refine in_order_0 ?_
       placed_of0
       exact h0 z
     · placed_of0
       refine in_order_1 ?_
       placed_of0
       exact h3 z p r hp o1 o2 w
     · placed_of0
       refine in_order_2 hp hp' hl ?_
       placed_of0
       exact h4 z p q r s p' q' r' s' C hp hp' o1 o1' o2 o2' hl w)
theorem meet_lc (h1 : LnOk a b c) (h2 : CiOk d e f) (h : Q (.bool true)) : F__law_meet [ln a b c, ci d e f] Q := by
  refine meet_go fun K hK => (fmeet_lc h1 h2 (fun l0 => ?_) (fun l0 p r hp o1 o2 w => ?_) (fun l0 p q r s p' q' r' s' C hp hp' o1 o1' o2 o2' hl w => ?_)).1
  · exact hK _ .g0 (fun K' k' => (fmeet_lc h1 h2 (fun _ => k') (fun z => absurd z (by grind)) (fun z => absurd z (by grind))).2) fun _ _ _ _ => tail_lc h1 h2 (by rw [sgn_neg l0]; rfl) h
  · refine hK _ (.g1 (pnt_lc h1 h2 hp o1 o2)) (fun K' k' => (fmeet_lc h1 h2 (fun z => absurd z (by grind)) (fun _ P R _ _ _ w' => ?_) (fun z => absurd z (by grind))).2) fun _ _ _ _ => tail_lc h1 h2 (by rw [l0]; rfl) h
    obtain ⟨rfl, rfl⟩ := lc1_uniq w w'
    exact k'
  · refine hK _ (.g2 (pnt_lc h1 h2 hp o1 o2) (pnt_lc h1 h2 hp' o1' o2') (fun Q hQ => cmp_points_lt hp hp' hl hQ)) (fun K' k' => (fmeet_lc h1 h2 (fun z => absurd z (by grind)) (fun z => absurd z (by grind)) (fun _ _ _ _ _ _ _ _ _ _ _ _ _ _ _ _ _ w' => ?_)).2) fun _ _ _ _ => tail_lc h1 h2 (by rw [sgn_pos l0]; rfl) h
    obtain ⟨e1, e2⟩ := lc2_uniq w w'
    rw [← e1, ← e2]
    exact k'
theorem meet_cl (h1 : LnOk a b c) (h2 : CiOk d e f) (h : Q (.bool true)) : F__law_meet [ci d e f, ln a b c] Q := by
  refine meet_go fun K hK => (fmeet_lc h1 h2 (fun l0 => ?_) (fun l0 p r hp o1 o2 w => ?_) (fun l0 p q r s p' q' r' s' C hp hp' o1 o1' o2 o2' hl w => ?_)).2
  · exact hK _ .g0 (fun K' k' => (fmeet_lc h1 h2 (fun _ => k') (fun z => absurd z (by grind)) (fun z => absurd z (by grind))).1) fun _ _ _ _ => tail_cl h1 h2 (by rw [sgn_neg l0]; rfl) h
  · refine hK _ (.g1 (pnt_cl h1 h2 hp o1 o2)) (fun K' k' => (fmeet_lc h1 h2 (fun z => absurd z (by grind)) (fun _ P R _ _ _ w' => ?_) (fun z => absurd z (by grind))).1) fun _ _ _ _ => tail_cl h1 h2 (by rw [l0]; rfl) h
    obtain ⟨rfl, rfl⟩ := lc1_uniq w w'
    exact k'
  · refine hK _ (.g2 (pnt_cl h1 h2 hp o1 o2) (pnt_cl h1 h2 hp' o1' o2') (fun Q hQ => cmp_points_lt hp hp' hl hQ)) (fun K' k' => (fmeet_lc h1 h2 (fun z => absurd z (by grind)) (fun z => absurd z (by grind)) (fun _ _ _ _ _ _ _ _ _ _ _ _ _ _ _ _ _ w' => ?_)).1) fun _ _ _ _ => tail_cl h1 h2 (by rw [sgn_pos l0]; rfl) h
    obtain ⟨e1, e2⟩ := lc2_uniq w w'
    rw [← e1, ← e2]
    exact k'
/-! ### two circles -/
theorem kcount_eq : kcount (kindw a b c d e f) = if dcc a b c d e f < 0 then 2 else if dcc a b c d e f = 0 then 1 else 0 := by
  unfold kindw
  by_cases h1 : dcc a b c d e f < 0
  · rw [if_pos h1, if_pos h1]; decide +kernel
  rw [if_neg h1, if_neg h1]
  by_cases h2 : 0 < rst a b c d e f
  · rw [if_pos h2]
    by_cases h3 : dcc a b c d e f = 0
    · rw [if_pos h3, if_pos h3]; decide +kernel
    · rw [if_neg h3, if_neg h3]; decide +kernel
  · rw [if_neg h2]
    by_cases h3 : dcc a b c d e f = 0
    · rw [if_pos h3, if_pos h3]; decide +kernel
    · rw [if_neg h3, if_neg h3]
      split <;> decide +kernel
/-- what the line of two circles tells -/
structure Pw (a b c d e f g : Rat) : Prop where
  ne : g ≠ 0
  eg : g = fst' (a - d) (b - e)
theorem fmeet_cc (h1 : CiOk a b c) (h2 : CiOk d e f)
    (h0 : a - d = 0 ∧ b - e = 0 → Q (.list []))
    (hA : ∀ g, Pw a b c d e f g → dsc ((a - d) / g) ((b - e) / g) ((c - f) / g) a b c < 0 → Q (.list []))
    (h3 : ∀ g, Pw a b c d e f g → dsc ((a - d) / g) ((b - e) / g) ((c - f) / g) a b c = 0 → ∀ p r, PB p 0 r 0 2 → OnL ((a - d) / g) ((b - e) / g) ((c - f) / g) p 0 r 0 → OnC a b c p 0 r 0 2 → Lc1 ((a - d) / g) ((b - e) / g) ((c - f) / g) a b c p r → Q (.list [pn p 0 r 0 2]))
    (h4 : ∀ g, Pw a b c d e f g → 0 < dsc ((a - d) / g) ((b - e) / g) ((c - f) / g) a b c → ∀ p q r s p' q' r' s' C, PB p q r s C → PB p' q' r' s' C → OnL ((a - d) / g) ((b - e) / g) ((c - f) / g) p q r s → OnL ((a - d) / g) ((b - e) / g) ((c - f) / g) p' q' r' s' → OnC a b c p q r s C → OnC a b c p' q' r' s' C → Lt p q r s p' q' r' s' C → Lc2 ((a - d) / g) ((b - e) / g) ((c - f) / g) a b c p q r s p' q' r' s' C → Q (.list [pn p q r s C, pn p' q' r' s' C])) : F_meets [ci a b c, ci d e f] Q := by
  obtain ⟨b1, b2, b3⟩ := h1.bs
  obtain ⟨b4, b5, b6⟩ := h2.bs
  have w1 : bz 6 (a - d) := (h1.1.sub h2.1).bz (by decide) (by decide)
  have w2 : bz 6 (b - e) := (h1.2.1.sub h2.2.1).bz (by decide) (by decide)
  have w3 : bz 11 (c - f) := quarter (by have := h1.2.2.1.sub h2.2.2.1; rw [show 4 * (c - f) = 4 * c - 4 * f by grind]; exact this) (by decide) (by decide)
  unfold F_meets
  placed_of0
  refine same_power_ok w1 w2 w3 b1 b2 b3 b4 b5 b6 (fun z => ?_) (fun g eg g0 => ?_)
  · placed_of0
    refine in_order_0 ?_
    placed_of0
    exact h0 z
  · have bg : bz 6 g := by rw [eg]; exact bz_fst w1 w2
    have hup : (b - e) / g = 0 → (a - d) / g = 1 := fun z => by
      have hb : b - e = 0 := by
        have : (b - e) / g * g = b - e := Rat.div_mul_cancel g0
        rw [z] at this; grind
      have : g = a - d := by
        rw [eg]; unfold fst'
        split
        · rename_i ha
          exact (g0 (by rw [eg]; unfold fst'; rw [if_pos ha]; exact hb)).elim
        · rfl
      rw [← this]; grind
    have hP : Pw a b c d e f g := ⟨g0, eg⟩
    placed_of0
    refine line_circle_ok hup (bz_mono (bz_over w1 bg g0) (by decide)) (bz_mono (bz_over w2 bg g0) (by decide)) (bz_mono (bz_over w3 bg g0) (by decide)) b1 b2 b3 (fun z => ?_) (fun z p r hp o1 o2 w => ?_) (fun z p q r s p' q' r' s' C hp hp' o1 o1' o2 o2' hl w => ?_)
    · placed_of0
      refine in_order_0 ?_
      placed_of0
      exact hA g hP z
    · placed_of0
      refine in_order_1 ?_
      placed_of0
      exact h3 g hP z p r hp o1 o2 w
    · placed_of0
      refine in_order_2 hp hp' hl ?_
      placed_of0
      exact h4 g hP z p q r s p' q' r' s' C hp hp' o1 o1' o2 o2' hl w
theorem Pw.same {g' : Rat} (h : Pw a b c d e f g) (h' : Pw d e f a b c g') : (d - a) / g' = (a - d) / g ∧ (e - b) / g' = (b - e) / g ∧ (f - c) / g' = (c - f) / g := by
  have e : g' = -g := by
    rw [h'.eg, h.eg]
    unfold fst'
    by_cases h0 : a - d = 0
    · rw [if_pos (by grind), if_pos h0]; grind
    · rw [if_neg (by grind), if_neg h0]; grind
  rw [e]
  have := h.ne
  refine ⟨?_, ?_, ?_⟩ <;> grind
theorem Pw.hab (h : Pw a b c d e f g) : ¬ (a - d = 0 ∧ b - e = 0) := fun z => h.ne (by rw [h.eg]; unfold fst'; rw [if_pos z.1]; exact z.2)
theorem Pw.l1 {g' P R : Rat} (h : Pw a b c d e f g) (h' : Pw d e f a b c g') (w : Lc1 ((d - a) / g') ((e - b) / g') ((f - c) / g') d e f P R) : Lc1 ((a - d) / g) ((b - e) / g) ((c - f) / g) a b c P R := by
  obtain ⟨e1, e2, e3⟩ := h.same h'
  rw [e1, e2, e3] at w
  obtain ⟨q1, q2⟩ := q_other (c := c) (f := f) h.ne h.hab h.eg
  unfold Lc1 at *
  rw [q1]
  exact w
theorem Pw.l2 {g' P W R S P' W' R' S' : Rat} (h : Pw a b c d e f g) (h' : Pw d e f a b c g') (w : Lc2 ((d - a) / g') ((e - b) / g') ((f - c) / g') d e f P W R S P' W' R' S' C) : Lc2 ((a - d) / g) ((b - e) / g) ((c - f) / g) a b c P W R S P' W' R' S' C := by
  obtain ⟨e1, e2, e3⟩ := h.same h'
  rw [e1, e2, e3] at w
  obtain ⟨q1, q2⟩ := q_other (c := c) (f := f) h.ne h.hab h.eg
  unfold Lc2 at *
  rw [q1, q2]
  exact w
theorem dcc_comm : dcc a b c d e f = dcc d e f a b c := by unfold dcc rst gap2 rad; grind
theorem Pw.dc (h : Pw a b c d e f g) : (dsc ((a - d) / g) ((b - e) / g) ((c - f) / g) a b c < 0 → 0 < dcc a b c d e f) ∧ (dsc ((a - d) / g) ((b - e) / g) ((c - f) / g) a b c = 0 → dcc a b c d e f = 0) ∧ (0 < dsc ((a - d) / g) ((b - e) / g) ((c - f) / g) a b c → dcc a b c d e f < 0) := by
  have e3 := dcc_dsc (a := a) (b := b) (c := c) (d := d) (e := e) (f := f) h.ne
  have gg := rsq_pos h.ne
  generalize dsc ((a - d) / g) ((b - e) / g) ((c - f) / g) a b c = w at *
  refine ⟨fun z => ?_, fun z => ?_, fun z => ?_⟩
  · have := Rat.mul_pos gg (b := -w) (by grind)
    grind
  · rw [z] at e3; grind
  · have := Rat.mul_pos gg z
    grind
theorem meet_cc (hn : ¬ (a = d ∧ b = e ∧ c = f)) (h1 : CiOk a b c) (h2 : CiOk d e f) (h : Q (.bool true)) : F__law_meet [ci a b c, ci d e f] Q := by
  have hsame : a - d = 0 ∧ b - e = 0 → 0 < dcc a b c d e f := fun z => by
    rw [dcc_same z.1 z.2]
    exact rsq_pos fun w => hn ⟨by grind, by grind, by grind⟩
  have hdc := @dcc_comm a b c d e f
  refine meet_go fun K hK => fmeet_cc h1 h2 (fun l0 => ?_) (fun g hg l0 => ?_) (fun g hg l0 p r hp o1 o2 w => ?_) (fun g hg l0 p q r s p' q' r' s' C hp hp' o1 o1' o2 o2' hl w => ?_)
  · have hd := hsame l0
    refine hK _ .g0 (fun K' k' => fmeet_cc h2 h1 (fun _ => k') (fun g' hg' z => k') (fun g' hg' z => absurd (hg'.dc.2.1 z) (by grind)) (fun g' hg' z => absurd (hg'.dc.2.2 z) (by grind))) fun _ _ _ _ => tail_cc hn h1 h2 (by rw [kcount_eq, if_neg (by grind), if_neg (by grind)]; rfl) h
  · have hd := hg.dc.1 l0
    refine hK _ .g0 (fun K' k' => fmeet_cc h2 h1 (fun _ => k') (fun g' hg' z => k') (fun g' hg' z => absurd (hg'.dc.2.1 z) (by grind)) (fun g' hg' z => absurd (hg'.dc.2.2 z) (by grind))) fun _ _ _ _ => tail_cc hn h1 h2 (by rw [kcount_eq, if_neg (by grind), if_neg (by grind)]; rfl) h
  · have hd := hg.dc.2.1 l0
    refine hK _ (.g1 (pnt_cc h1 h2 hp o2 (on_other hg.ne o1 o2))) (fun K' k' => fmeet_cc h2 h1 (fun z => absurd (hsame ⟨by grind, by grind⟩) (by grind)) (fun g' hg' z => absurd (hg'.dc.1 z) (by grind)) (fun g' hg' z P R _ _ _ w' => ?_) (fun g' hg' z => absurd (hg'.dc.2.2 z) (by grind))) fun _ _ _ _ => tail_cc hn h1 h2 (by rw [kcount_eq, if_neg (by grind), if_pos hd]; rfl) h
    obtain ⟨rfl, rfl⟩ := lc1_uniq w (hg.l1 hg' w')
    exact k'
  · have hd := hg.dc.2.2 l0
    refine hK _ (.g2 (pnt_cc h1 h2 hp o2 (on_other hg.ne o1 o2)) (pnt_cc h1 h2 hp' o2' (on_other hg.ne o1' o2')) (fun Q hQ => cmp_points_lt hp hp' hl hQ)) (fun K' k' => fmeet_cc h2 h1 (fun z => absurd (hsame ⟨by grind, by grind⟩) (by grind)) (fun g' hg' z => absurd (hg'.dc.1 z) (by grind)) (fun g' hg' z => absurd (hg'.dc.2.1 z) (by grind)) (fun g' hg' z _ _ _ _ _ _ _ _ _ _ _ _ _ _ _ _ w' => ?_)) fun _ _ _ _ => tail_cc hn h1 h2 (by rw [kcount_eq, if_pos hd]; rfl) h
    obtain ⟨e1, e2⟩ := lc2_uniq w (hg.l2 hg' w')
    rw [← e1, ← e2]
    exact k'
end

/-! ### the drawn curves -/
structure Row (cs : List D) : Prop where
  cv : ∀ d ∈ cs, Cv d
  ne : cs.Pairwise fun x y => PyData.eqv x y = false
theorem forW_cnt {g : MG} {b : MS} {nx bk ct : En → Prop} {rt : D → Prop} (I : Nat → En → Prop) (hb : ∀ k d ρ nx' ct', I (k + 1) ρ → (∀ ρ', I k ρ' → nx' ρ') → (∀ ρ', I k ρ' → ct' ρ') → g d ρ fun ρ1 => b ρ1 ⟨nx', rt, nx, ct'⟩) (hn : ∀ ρ, I 0 ρ → nx ρ) : ∀ (ds : List D) (ρ : En), I ds.length ρ → forW g b ds ρ ⟨nx, rt, bk, ct⟩
  | [], ρ, h => hn ρ h
  | d :: ds, ρ, h => hb ds.length d ρ _ _ h (fun ρ' h' => forW_cnt I hb hn ds ρ' h') (fun ρ' h' => forW_cnt I hb hn ds ρ' h')
theorem cv_ok {d : D} (h : Cv d) : okD d ∧ d.depth ≤ 60 := by
  cases h with
  | l h => exact ⟨⟨rfl, rfl⟩, Nat.le_of_ble_eq_true rfl⟩
  | c h => exact ⟨⟨rfl, rfl⟩, Nat.le_of_ble_eq_true rfl⟩
section
variable {k l n ka kb kc kd ke kf : Nat} {a b c d e f g m p q r s t u v x y z p' q' r' s' C X Y M N : Rat} {Q : D → Prop}
theorem w_notIn {x : D} {ds : List D} (h1 : okD x) (h2 : okD (.list ds)) (q : Q (.bool (!ds.any fun z => PyData.eqv z x))) : fNotIn x (.list ds) Q := ⟨h1, h2, q⟩
theorem row_add {cs : List D} {d : D} (h : Row cs) (hd : Cv d) (hn : (cs.any fun z => PyData.eqv z d) = false) : Row (cs ++ [d]) := by
  refine ⟨fun x hx => ?_, ?_⟩
  · rw [List.mem_append, List.mem_singleton] at hx
    rcases hx with hx | rfl
    · exact h.cv x hx
    · exact hd
  · rw [List.pairwise_append]
    refine ⟨h.ne, List.pairwise_singleton _ _, fun x hx y hy => ?_⟩
    rw [List.mem_singleton.mp hy]
    have := List.any_eq_false.mp hn x hx
    simpa using this
theorem lx : ∀ d ∈ [PyData.tuple [.int 0, .int 1], .tuple [.int 1, .int 1], .tuple [.int (-1), .int 1], .tuple [.int 1, .int 2], .tuple [.int 2, .int 1]], ∃ (x : Rat) (i : Int), d = dr x ∧ x = (i : Rat) / 2 ∧ -4 ≤ i ∧ i ≤ 4 ∧ bz 3 x := by
  intro d hd
  simp only [List.mem_cons, List.not_mem_nil, or_false] at hd
  rcases hd with rfl | rfl | rfl | rfl | rfl
  · exact ⟨0, 0, rfl, by decide +kernel, by decide, by decide, ⟨by unfold sm; decide +kernel, by decide +kernel⟩⟩
  · exact ⟨1, 2, rfl, by decide +kernel, by decide, by decide, ⟨by unfold sm; decide +kernel, by decide +kernel⟩⟩
  · exact ⟨-1, -2, rfl, by decide +kernel, by decide, by decide, ⟨by unfold sm; decide +kernel, by decide +kernel⟩⟩
  · exact ⟨dv 1 2, 1, rfl, by decide +kernel, by decide, by decide, ⟨by unfold sm; decide +kernel, by decide +kernel⟩⟩
  · exact ⟨2, 4, rfl, by decide +kernel, by decide, by decide, ⟨by unfold sm; decide +kernel, by decide +kernel⟩⟩
theorem ly : ∀ d ∈ [PyData.tuple [.int 0, .int 1], .tuple [.int 1, .int 1], .tuple [.int (-1), .int 2]], ∃ (x : Rat) (i : Int), d = dr x ∧ x = (i : Rat) / 2 ∧ -4 ≤ i ∧ i ≤ 4 ∧ bz 3 x := by
  intro d hd
  simp only [List.mem_cons, List.not_mem_nil, or_false] at hd
  rcases hd with rfl | rfl | rfl
  · exact ⟨0, 0, rfl, by decide +kernel, by decide, by decide, ⟨by unfold sm; decide +kernel, by decide +kernel⟩⟩
  · exact ⟨1, 2, rfl, by decide +kernel, by decide, by decide, ⟨by unfold sm; decide +kernel, by decide +kernel⟩⟩
  · exact ⟨dv (-1) 2, -1, rfl, by decide +kernel, by decide, by decide, ⟨by unfold sm; decide +kernel, by decide +kernel⟩⟩
theorem lr : ∀ d ∈ [PyData.tuple [.int 1, .int 1], .tuple [.int 2, .int 1], .tuple [.int 4, .int 1], .tuple [.int 1, .int 4], .tuple [.int 5, .int 1]], ∃ (x : Rat) (i : Int), d = dr x ∧ x = (i : Rat) / 4 ∧ 0 < i ∧ i ≤ 20 ∧ 0 < x ∧ bz 4 x := by
  intro d hd
  simp only [List.mem_cons, List.not_mem_nil, or_false] at hd
  rcases hd with rfl | rfl | rfl | rfl | rfl
  · exact ⟨1, 4, rfl, by decide +kernel, by decide, by decide, by decide +kernel, ⟨by unfold sm; decide +kernel, by decide +kernel⟩⟩
  · exact ⟨2, 8, rfl, by decide +kernel, by decide, by decide, by decide +kernel, ⟨by unfold sm; decide +kernel, by decide +kernel⟩⟩
  · exact ⟨4, 16, rfl, by decide +kernel, by decide, by decide, by decide +kernel, ⟨by unfold sm; decide +kernel, by decide +kernel⟩⟩
  · exact ⟨dv 1 4, 1, rfl, by decide +kernel, by decide, by decide, by decide +kernel, ⟨by unfold sm; decide +kernel, by decide +kernel⟩⟩
  · exact ⟨5, 20, rfl, by decide +kernel, by decide, by decide, by decide +kernel, ⟨by unfold sm; decide +kernel, by decide +kernel⟩⟩
theorem add_ok {cs : List D} {cv : D} {s0 s1 s3 s4 s5 s7 : Sl} {nx bk ct : En → Prop} {rt : D → Prop} (hR : Row cs) (hl : cs.length < 100) (hc : Cv cv) (h : ∀ cs', cs'.length ≤ cs.length + 1 → Row cs' → nx [s0, s1, .va (.list cs'), s3, s4, s5, .va cv, s7]) :
    sAsg (eOp fCatL (eVar 2) (eIf (eT (eOp fNotIn (eVar 6) (eVar 2))) (eLst (aCons (eVar 6) aNil)) (eLst aNil))) (mgName 2) [s0, s1, .va (.list cs), s3, s4, s5, .va cv, s7] ⟨nx, rt, bk, ct⟩ := by
  placed_of0
  refine w_notIn (cv_ok hc).1 (okD_list fun d hd => cv_ok (hR.cv d hd)) ?_
  by_cases g : (cs.any fun z => PyData.eqv z cv) = true
  · rw [g]
    placed_of0
    · show cs.length + 0 ≤ 100000
      omega
    placed_of0
    rw [List.append_nil]
    exact h cs (by omega) hR
  · have g := Bool.eq_false_iff.mpr g
    rw [g]
    placed_of0
    · show cs.length + 1 ≤ 100000
      omega
    placed_of0
    exact h _ (by rw [List.length_append]; exact Nat.le_refl _) (row_add hR hc g)
theorem curves_ok (hQ : ∀ cs, cs.length ≤ 4 → Row cs → Q (.list cs)) : F__law_curves [wD, .int 4] Q := by
  unfold F__law_curves
  kct_strs
  rw [show rngD 0 (Int.toNat 4) = [.int 0, .int 1, .int 2, .int 3] from rfl]
  refine forW_cnt (I := fun k ρ => ∃ cs s3 s4 s5 s6 s7, cs.length + k ≤ 4 ∧ Row cs ∧ ρ = [.va wD, .va (.int 4), .va (.list cs), s3, s4, s5, s6, s7]) ?_ ?_ _ _ ⟨[], _, _, _, _, _, by decide, ⟨fun _ h => absurd h List.not_mem_nil, List.Pairwise.nil⟩, rfl⟩
  · rintro k d ρ nx' ct' ⟨cs, s3, s4, s5, s6, s7, hl, hR, rfl⟩ hnx hct
    placed_of0
    refine next_ok (by decide) fun i i0 i1 => ?_
    placed_of0
    rw [eqv_int]
    have hl9 : cs.length < 100 := by omega
    have fin : ∀ cs' : List D, cs'.length ≤ cs.length + 1 → Row cs' → ∀ s3 s4 s5 s6 s7, nx' [.va wD, .va (.int 4), .va (.list cs'), s3, s4, s5, s6, s7] := fun cs' h1 h2 s3 s4 s5 s6 s7 => hnx _ ⟨cs', s3, s4, s5, s6, s7, by omega, h2, rfl⟩
    by_cases hi : i = 0
    · rw [decide_eq_true hi]
      placed_of0
      refine next_ok (by decide) fun a a0 a1 => ?_
      placed_of0
      refine next_ok (by decide) fun b b0 b1 => ?_
      placed_of0
      rw [eqv_pr]
      by_cases h0 : a - 1 = 0 ∧ b - 1 = 0
      · rw [decide_eq_true h0]
        placed_of0
        refine next_ok (by decide) fun c c0 c1 => ?_
        placed_of0
        rw [lit11, lit01, dr_int]
        have bc : bz 4 ((c - 1 : Int) : Rat) := bz_int (sm_of (by omega) (by omega)) (by decide)
        have hL := lnok_of (bz_mono bz_1 (by decide)) (bz_mono bz_0 (by decide)) bc (show ¬ ((1 : Rat) = 0 ∧ (0 : Rat) = 0) by decide)
        refine line_ok (k := 4) (by decide) (bz_mono bz_1 (by decide)) (bz_mono bz_0 (by decide)) bc (by decide) fun t => ?_
        repeat (first | (with_reducible refine add_ok hR hl9 (.l hL) fun cs' l1 l2 => ?_) | tb_rel | tb_start)
        exact fin cs' l1 l2 _ _ _ _ _
      · rw [decide_eq_false h0]
        placed_of0
        refine next_ok (by decide) fun c c0 c1 => ?_
        placed_of0
        rw [dr_int, dr_int, dr_int]
        have bc : bz 4 ((c - 2 : Int) : Rat) := bz_int (sm_of (by omega) (by omega)) (by decide)
        have ba : bz 2 ((a - 1 : Int) : Rat) := bz_int (sm_of (by omega) (by omega)) (by decide)
        have bb : bz 2 ((b - 1 : Int) : Rat) := bz_int (sm_of (by omega) (by omega)) (by decide)
        have hz : ¬ (((a - 1 : Int) : Rat) = 0 ∧ ((b - 1 : Int) : Rat) = 0) := fun z => h0 ⟨by exact_mod_cast z.1, by exact_mod_cast z.2⟩
        have hL := lnok_of ba bb bc hz
        refine line_ok (k := 4) hz (bz_mono ba (by decide)) (bz_mono bb (by decide)) bc (by decide) fun t => ?_
        repeat (first | (with_reducible refine add_ok hR hl9 (.l hL) fun cs' l1 l2 => ?_) | tb_rel | tb_start)
        exact fin cs' l1 l2 _ _ _ _ _
    · rw [decide_eq_false hi]
      placed_of0
      refine next_ok (by decide) fun j j0 j1 => ?_
      obtain ⟨dd, hd, hat⟩ := atI_mem (ds := [PyData.tuple [.int 1, .int 1], .tuple [.int 2, .int 1], .tuple [.int 4, .int 1], .tuple [.int 1, .int 4], .tuple [.int 5, .int 1]]) j0 j1
      obtain ⟨r, l, rfl, r0, r1, r2, r3, r4⟩ := lr dd hd
      refine w_ixT hat ?_
      placed_of0
      refine next_ok (by decide) fun j j0 j1 => ?_
      obtain ⟨dd, hd, hat⟩ := atI_mem (ds := [PyData.tuple [.int 0, .int 1], .tuple [.int 1, .int 1], .tuple [.int (-1), .int 1], .tuple [.int 1, .int 2], .tuple [.int 2, .int 1]]) j0 j1
      obtain ⟨x, n, rfl, x0, x1, x2, x3⟩ := lx dd hd
      refine w_ixT hat ?_
      placed_of0
      refine next_ok (by decide) fun j j0 j1 => ?_
      obtain ⟨dd, hd, hat⟩ := atI_mem (ds := [PyData.tuple [.int 0, .int 1], .tuple [.int 1, .int 1], .tuple [.int (-1), .int 2]]) j0 j1
      obtain ⟨y, m, rfl, y0, y1, y2, y3⟩ := ly dd hd
      refine w_ixT hat ?_
      placed_of0
      have hC : CiOk (-2 * x) (-2 * y) (x * x + y * y - r) := ciok_of x0 y0 r0 (by omega) (by omega) (by omega) (by omega) r1 (by omega)
      refine circle_ok (k := 4) r3 (bz_mono x3 (by decide)) (bz_mono y3 (by decide)) r4 (by decide) ?_
      repeat (first | (with_reducible refine add_ok hR hl9 (.c hC) fun cs' l1 l2 => ?_) | tb_rel | tb_start)
      exact fin cs' l1 l2 _ _ _ _ _
  · rintro ρ ⟨cs, s3, s4, s5, s6, s7, hl, hR, rfl⟩
    placed_of0
    exact hQ cs (by omega) hR
end

section
variable {k l n ka kb kc kd ke kf : Nat} {a b c d e f g m p q r s t u v x y z p' q' r' s' C X Y M N : Rat} {Q : D → Prop}
/-! ### what curves are -/
theorem is_curve_cv {d : D} (h : Cv d) (hQ : Q (.bool true)) : F_is_curve [d] Q := by
  cases h with
  | l h => exact is_curve_ln h.1 hQ
  | @c a b c h =>
    obtain ⟨b1, b2, b3⟩ := h.bs
    refine is_curve_ci (k := 10) (bz_mono b1 (by decide)) (bz_mono b2 (by decide)) b3 (by decide) ?_
    rw [show decide (0 < -a / 2 * (-a / 2) + -b / 2 * (-b / 2) - c) = true from decide_eq_true h.2.2.2]
    exact hQ
theorem line_ok2 (h0 : ¬ (a = 0 ∧ b = 0)) (ha : bz k a) (hb : bz k b) (hc : bz k c) (hk : k < 3900) (h : Q (.tuple [ln (a / fst' a b) (b / fst' a b) (c / fst' a b), .bool (decide ((fst' a b).num < 0))])) : F_line [dr a, dr b, dr c] Q := by
  unfold F_line
  tb_rel
  refine xline_ok ha hb hc hk (fun z => (h0 z).elim) fun _ => ?_
  placed_of0
  exact h
theorem lthru91 {x y u v : Rat} (h0 : ¬ (y - v = 0 ∧ u - x = 0)) (hx : bz k x) (hy : bz k y) (hu : bz k u) (hv : bz k v) (hk : k < 300) (h : Q (.tuple [ln ((y - v) / fst' (y - v) (u - x)) ((u - x) / fst' (y - v) (u - x)) (-((y - v) * x + (u - x) * y) / fst' (y - v) (u - x)), .bool (!decide ((fst' (y - v) (u - x)).num < 0))])) : F_line_through [pt x y, pt u v] Q := by
  unfold F_line_through
  placed_of1
  refine line_ok2 (k := 6 * k + 4) h0 (bz_mono (by dl_puts) (by omega)) (bz_mono (by dl_puts) (by omega)) (bz_mono (by dl_puts) (by omega)) (by omega) ?_
  placed_of0
  exact h
theorem bent_none (h : Q (.bool false)) : F_is_curve [.none] Q := by
  unfold F_is_curve
  placed_of0
  exact h
/-- the side of a third point -/
theorem line_side {f x y u v p q : Rat} (hf : f ≠ 0) : ((y - v) / f * p + (u - x) / f * q + -((y - v) * x + (u - x) * y) / f) * f = (u - x) * (q - y) - (v - y) * (p - x) := by
  have h1 : (y - v) / f * f = y - v := Rat.div_mul_cancel hf
  have h2 : (u - x) / f * f = u - x := Rat.div_mul_cancel hf
  have h3 : -((y - v) * x + (u - x) * y) / f * f = -((y - v) * x + (u - x) * y) := Rat.div_mul_cancel hf
  generalize (y - v) / f = A at *
  generalize (u - x) / f = B at *
  generalize -((y - v) * x + (u - x) * y) / f = K at *
  grind
theorem sgn_times (w f : Rat) (hf : f ≠ 0) : sgn w * (if 0 < f then 1 else -1) = sgn (w * f) := by
  by_cases h : 0 < f
  · rw [if_pos h, Int.mul_one]
    rcases Rl.lt_tri (Rl.q w) 0 with g | g | g
    · rw [← Rl.q_zero, Rl.q_lt] at g
      have := Rat.mul_pos (a := -w) (b := f) (by grind) h
      rw [sgn_neg g, sgn_neg (by grind)]
    · rw [← Rl.q_zero, Rl.q_inj] at g
      rw [g, Rat.zero_mul]
    · rw [← Rl.q_zero, Rl.q_lt] at g
      rw [sgn_pos g, sgn_pos (Rat.mul_pos g h)]
  · rw [if_neg h]
    rcases Rl.lt_tri (Rl.q w) 0 with g | g | g
    · rw [← Rl.q_zero, Rl.q_lt] at g
      have := Rat.mul_pos (a := -w) (b := -f) (by grind) (by grind)
      rw [sgn_neg g, sgn_pos (by grind)]; rfl
    · rw [← Rl.q_zero, Rl.q_inj] at g
      rw [g, Rat.zero_mul]; rfl
    · rw [← Rl.q_zero, Rl.q_lt] at g
      have := Rat.mul_pos (a := w) (b := -f) g (by grind)
      rw [sgn_pos g, sgn_neg (by grind)]; rfl
theorem sgn_int (i : Int) : sgn (i : Rat) = (if 0 < i then (1 : Int) else 0) - (if i < 0 then 1 else 0) := by
  show i.sign = _
  rcases Int.lt_trichotomy i 0 with h | h | h
  · rw [Int.sign_eq_neg_one_of_neg h, if_neg (by omega), if_pos h]; rfl
  · rw [h]; rfl
  · rw [Int.sign_eq_one_of_pos h, if_pos h, if_neg (by omega)]; rfl
abbrev TLD : MS := (sSeq (sIf (eT (eOp fNe (eOp fIx (eVar 5) (eC (.int 0))) (eOp fIx (eVar 5) (eC (.int 1))))) (sSeq (sAsg (eCallN 2 F_line_through (aCons (eOp fIx (eVar 5) (eC (.int 0))) (aCons (eOp fIx (eVar 5) (eC (.int 1))) aNil))) (mgTup 2 (mgCons (mgName 12) (mgCons (mgName 13) mgNil)))) (sSeq (sAsg (eLc (itL (eVar 5)) [18] (mgName 18) mYes (eTup (aCons (eOp fIx (eOp fIx (eVar 18) (eC (.int 0))) (eC (.int 0))) (aCons (eOp fIx (eOp fIx (eVar 18) (eC (.int 1))) (eC (.int 0))) aNil)))) (mgLst 3 (mgCons (mgTup 2 (mgCons (mgName 3) (mgCons (mgName 4) mgNil))) (mgCons (mgTup 2 (mgCons (mgName 8) (mgCons (mgName 9) mgNil))) (mgCons (mgTup 2 (mgCons (mgName 10) (mgCons (mgName 11) mgNil))) mgNil))))) (sSeq (sAsg (eOp fSub (eOp fMul (eOp fSub (eVar 8) (eVar 3)) (eOp fSub (eVar 11) (eVar 4))) (eOp fMul (eOp fSub (eVar 9) (eVar 4)) (eOp fSub (eVar 10) (eVar 3)))) (mgName 14)) (sSeq (sAsg (eOp fMul (eCallN 2 F__law_sign (aCons (eVar 12) (aCons (eCallN 2 F_point_of (aCons (eOp fIx (eOp fIx (eVar 5) (eC (.int 2))) (eC (.int 0))) (aCons (eOp fIx (eOp fIx (eVar 5) (eC (.int 2))) (eC (.int 1))) aNil))) aNil))) (eIf (eT (eVar 13)) (eC (.int 1)) (eUn fNeg (eC (.int 1))))) (mgName 15)) (sIf (mOr (eT (eOp fNe (eLc (itL (eSl (eVar 5) oNone (oSome (eC (.int 2))))) [3, 4] (mgTup 2 (mgCons (mgName 3) (mgCons (mgName 4) mgNil))) (eT (eOp fNe (eCallN 2 F__law_sign (aCons (eVar 12) (aCons (eCallN 2 F_point_of (aCons (eVar 3) (aCons (eVar 4) aNil))) aNil))) (eC (.int 0)))) (eVar 3)) (eLst aNil))) (eT (eOp fNe (eVar 15) (eOp fSub (eIf (eT (eOp fGt (eVar 14) (eC (.int 0)))) (eC (.int 1)) (eC (.int 0))) (eIf (eT (eOp fLt (eVar 14) (eC (.int 0)))) (eC (.int 1)) (eC (.int 0))))))) (sRet (eC (.bool false))) sNext))))) sNext) (sSeq (sAsg (eLst (aCons (eTup (aCons (eC (.int 0)) (aCons (eTup (aCons (eC (.int 2)) (aCons (eC (.int 1)) aNil))) (aCons (eTup (aCons (eC (.int 1)) (aCons (eC (.int 1)) aNil))) (aCons (eTup (aCons (eC (.int 0)) (aCons (eC (.int 1)) aNil))) aNil))))) (aCons (eTup (aCons (eC (.int 0)) (aCons (eTup (aCons (eC (.int 0)) (aCons (eC (.int 1)) aNil))) (aCons (eTup (aCons (eC (.int 0)) (aCons (eC (.int 1)) aNil))) (aCons (eTup (aCons (eC (.int 1)) (aCons (eC (.int 1)) aNil))) aNil))))) (aCons (eTup (aCons (eC (.int 1)) (aCons (eTup (aCons (eC (.int 0)) (aCons (eC (.int 1)) aNil))) (aCons (eTup (aCons (eC (.int 0)) (aCons (eC (.int 1)) aNil))) (aCons (eTup (aCons (eC (.int 1)) (aCons (eC (.int 1)) aNil))) aNil))))) (aCons (eTup (aCons (eC (.int 2)) (aCons (eTup (aCons (eC (.int 1)) (aCons (eC (.int 1)) aNil))) (aCons (eTup (aCons (eC (.int 1)) (aCons (eC (.int 1)) aNil))) (aCons (eTup (aCons (eC (.int 0)) (aCons (eC (.int 1)) aNil))) aNil))))) (aCons (eC .none) (aCons (eTup (aCons (eC (.bool true)) (aCons (eTup (aCons (eC (.int 1)) (aCons (eC (.int 1)) aNil))) (aCons (eTup (aCons (eC (.int 0)) (aCons (eC (.int 1)) aNil))) (aCons (eTup (aCons (eC (.int 0)) (aCons (eC (.int 1)) aNil))) aNil))))) aNil))))))) (mgName 16)) (sRet (eOp fEq (eLc (itL (eVar 16)) [19] (mgName 19) (eT (eOp fNotB (eCallN 1 F_is_curve (aCons (eVar 19) aNil)) (eC (.bool false)))) (eVar 19)) (eLst aNil)))))
instance {b : Bool} {ρ : En} {K : Bool → Prop} : Stp (mIs b ρ K) (K b) := ⟨fun q => q⟩
/-- a drawn part of a point -/
theorem small_bz {i : Int} (h0 : 0 ≤ i) (h1 : i < 7) : bz 3 ((i - 3 : Int) : Rat) := bz_int (sm_of (by omega) (by omega)) (by decide)
theorem lsign_pci {i j : Int} (hi : bz 3 (i : Rat)) (hj : bz 3 (j : Rat)) (ha : bz 830 a) (hb : bz 830 b) (hc : bz 830 c) (e : a * (i : Rat) + b * (j : Rat) + c + ((i : Rat) * (i : Rat) + (j : Rat) * (j : Rat)) = 0) (h : Q (.int 0)) : F__law_sign [ci a b c, .tuple [rt i 0 0, rt j 0 0]] Q := by
  rw [← nrm_0 (i : Rat) 2, ← nrm_0 (j : Rat) 2]
  refine lsign_ci (k := 3) (l := 830) (m := 2) nsq_2 hi (bz_mono bz_0 (by decide)) hj (bz_mono bz_0 (by decide)) bz_2 ha hb hc (by decide) ?_
  rw [show a * 0 + b * 0 + 2 * ((i : Rat) * 0 + (j : Rat) * 0) = 0 by grind, show a * (i : Rat) + b * (j : Rat) + c + ((i : Rat) * (i : Rat) + (j : Rat) * (j : Rat) + (0 * 0 + 0 * 0) * 2) = 0 by grind, sg1_00]
  exact h
theorem lsign_pln {i j : Int} (hi : bz 3 (i : Rat)) (hj : bz 3 (j : Rat)) (ha : bz 830 a) (hb : bz 830 b) (hc : bz 830 c) (h : Q (.int (sgn (a * (i : Rat) + b * (j : Rat) + c)))) : F__law_sign [ln a b c, .tuple [rt i 0 0, rt j 0 0]] Q := by
  rw [← nrm_0 (i : Rat) 2, ← nrm_0 (j : Rat) 2]
  refine lsign_ln (k := 3) (l := 830) (m := 2) nsq_2 hi (bz_mono bz_0 (by decide)) hj (bz_mono bz_0 (by decide)) bz_2 ha hb hc (by decide) ?_
  rw [show a * 0 + b * 0 = 0 by grind, sg1_0]
  exact h
theorem point_int {i j : Int} (h : Q (.tuple [rt i 0 0, rt j 0 0])) : F_point_of [.tuple [.int i, .int 1], .tuple [.int j, .int 1]] Q := by
  show F_point_of [dr (i : Rat), dr (j : Rat)] Q
  exact point_of_ok h
abbrev pi (i j : Int) : D := .tuple [.tuple [.int i, .int 1], .tuple [.int j, .int 1]]
theorem made_tail {s2 s3 s4 s6 s8 s9 s10 s11 s17 s18 : Sl} {nx bk ct : En → Prop} {cs : List D} {x y u v p q : Int} (hx : bz 3 (x : Rat)) (hy : bz 3 (y : Rat)) (hu : bz 3 (u : Rat)) (hv : bz 3 (v : Rat)) (hp : bz 3 (p : Rat)) (hq : bz 3 (q : Rat)) (h : Q (.bool true)) :
    TLD [.va wD, .va (.list cs), s2, s3, s4, .va (.list [pi x y, pi u v, pi p q]), s6, .no, s8, s9, s10, s11, .no, .no, .no, .no, .no, s17, s18, .no, .no] ⟨nx, Q, bk, ct⟩ := by
  have sx : sm 3 x := hx.1
  have sy : sm 3 y := hy.1
  have su : sm 3 u := hu.1
  have sv : sm 3 v := hv.1
  have sp : sm 3 p := hp.1
  have sq : sm 3 q := hq.1
  unfold TLD
  placed_of0
  rw [show PyData.eqv (.tuple [.tuple [.int x, .int 1], .tuple [.int y, .int 1]]) (.tuple [.tuple [.int u, .int 1], .tuple [.int v, .int 1]]) = decide ((x : Rat) = (u : Rat) ∧ (y : Rat) = (v : Rat)) from eqv_pt x y u v]
  by_cases h0 : (x : Rat) = (u : Rat) ∧ (y : Rat) = (v : Rat)
  case' pos =>
    (rw [decide_eq_true h0]
     placed_of0)
  case' neg =>
    (rw [decide_eq_false h0]
     have hz : ¬ ((y : Rat) - v = 0 ∧ (u : Rat) - x = 0) := fun z => h0 ⟨by grind, by grind⟩
     have hf0 := fst_ne hz
     have bf : bz 7 (fst' ((y : Rat) - v) ((u : Rat) - x)) := bz_fst (bz_sub hy hv) (bz_sub hu hx)
     have b1 : bz 830 (((y : Rat) - v) / fst' ((y : Rat) - v) ((u : Rat) - x)) := bz_mono (bz_over (bz_sub hy hv) bf hf0) (by decide)
     have b2 : bz 830 (((u : Rat) - x) / fst' ((y : Rat) - v) ((u : Rat) - x)) := bz_mono (bz_over (bz_sub hu hx) bf hf0) (by decide)
     have b3 : bz 830 (-(((y : Rat) - v) * x + ((u : Rat) - x) * y) / fst' ((y : Rat) - v) ((u : Rat) - x)) := bz_mono (bz_over (bz_neg (bz_add (bz_mul (bz_sub hy hv) hx) (bz_mul (bz_sub hu hx) hy))) bf hf0) (by decide)
     obtain ⟨e1, e2⟩ := line_has (n := 0) hz hf0
     have e3 := line_side (p := (p : Rat)) (q := (q : Rat)) (x := (x : Rat)) (y := (y : Rat)) (u := (u : Rat)) (v := (v : Rat)) hf0
     placed_of0
     show F_line_through [pt (x : Rat) (y : Rat), pt (u : Rat) (v : Rat)] _
     refine lthru91 hz hx hy hu hv (by decide) ?_
     generalize fst' ((y : Rat) - v) ((u : Rat) - x) = f at *
     generalize ((y : Rat) - v) / f = A at *
     generalize ((u : Rat) - x) / f = B at *
     generalize -(((y : Rat) - v) * x + ((u : Rat) - x) * y) / f = K at *
     have hc : sgn (A * p + B * q + K) * (if 0 < f then 1 else -1) = (if 0 < (u - x) * (q - y) - (v - y) * (p - x) then (1 : Int) else 0) - (if (u - x) * (q - y) - (v - y) * (p - x) < 0 then 1 else 0) := by
       rw [sgn_times _ _ hf0, e3, ← sgn_int, Rat.intCast_sub, Rat.intCast_mul, Rat.intCast_mul, Rat.intCast_sub, Rat.intCast_sub, Rat.intCast_sub, Rat.intCast_sub]
     have hS := sm_sgn (A * (p : Rat) + B * q + K).num
     have hn : decide (f.num < 0) = !decide (0 < f) := by
       by_cases g : 0 < f
       · have := Rat.num_nonneg.mpr (Rat.le_of_lt g)
         rw [decide_eq_true g, decide_eq_false (by omega)]; rfl
       · have h1 := sgn_neg (r := f) (by grind)
         rw [decide_eq_false g, decide_eq_true (Int.sign_eq_neg_one_iff_neg.mp h1)]; rfl
     placed_of0
     · exact cmul (sm_sub su sx) (sm_sub sq sy) (by decide)
     placed_of0
     · exact cmul (sm_sub sv sy) (sm_sub sp sx) (by decide)
     placed_of0
     refine point_int ?_
     placed_of0
     refine lsign_pln hp hq b1 b2 b3 ?_
     rw [hn, Bool.not_not]
     placed_of0
     rcases Classical.em (0 < f) with g | g)
  case' neg.refine_2.refine_2.inl =>
    (rw [if_pos g] at hc
     rw [decide_eq_true g]
     placed_of0
     · exact cmul hS (show sm 1 (1) by unfold sm; decide) (by decide)
     generalize sgn (A * (p : Rat) + B * (q : Rat) + K) * (1) = T at *
     placed_of0
     rw [show cutD [pi x y, pi u v, pi p q] none (some 2) = [pi x y, pi u v] from rfl]
     placed_of0
     refine point_int ?_
     placed_of0
     refine lsign_pln hx hy b1 b2 b3 ?_
     rw [e1, sgn_zero]
     placed_of0
     refine point_int ?_
     placed_of0
     refine lsign_pln hu hv b1 b2 b3 ?_
     rw [e2, sgn_zero]
     placed_of0
     generalize (u - x) * (q - y) - (v - y) * (p - x) = w at *
     have hw : (if 0 < w then (1 : Int) else 0) - (if w < 0 then 1 else 0) = T := hc.symm
     rcases Int.lt_trichotomy w 0 with t | t | t
     all_goals
       (try rw [decide_eq_true t]
        try rw [decide_eq_false (show ¬ 0 < w by omega)]
        placed_of0
        try rw [decide_eq_true t]
        try rw [decide_eq_false (show ¬ w < 0 by omega)]
        placed_of0
        rw [eqv_int, decide_eq_true (by rw [← hw]; (repeat' split) <;> omega)]
        placed_of0))
  case' neg.refine_2.refine_2.inr =>
    (rw [if_neg g] at hc
     rw [decide_eq_false g]
     placed_of0
     · exact cmul hS (show sm 1 (-1) by unfold sm; decide) (by decide)
     generalize sgn (A * (p : Rat) + B * (q : Rat) + K) * (-1) = T at *
     placed_of0
     rw [show cutD [pi x y, pi u v, pi p q] none (some 2) = [pi x y, pi u v] from rfl]
     placed_of0
     refine point_int ?_
     placed_of0
     refine lsign_pln hx hy b1 b2 b3 ?_
     rw [e1, sgn_zero]
     placed_of0
     refine point_int ?_
     placed_of0
     refine lsign_pln hu hv b1 b2 b3 ?_
     rw [e2, sgn_zero]
     placed_of0
     generalize (u - x) * (q - y) - (v - y) * (p - x) = w at *
     have hw : (if 0 < w then (1 : Int) else 0) - (if w < 0 then 1 else 0) = T := hc.symm
     rcases Int.lt_trichotomy w 0 with t | t | t
     all_goals
       (try rw [decide_eq_true t]
        try rw [decide_eq_false (show ¬ 0 < w by omega)]
        placed_of0
        try rw [decide_eq_true t]
        try rw [decide_eq_false (show ¬ w < 0 by omega)]
        placed_of0
        rw [eqv_int, decide_eq_true (by rw [← hw]; (repeat' split) <;> omega)]
        placed_of0))
  all_goals
    (refine bent_ln (a := 2) (b := 1) (c := 0) (by decide) (.inl (by decide)) ?_
     placed_of0
     refine bent_ln (a := 0) (b := 0) (c := 1) (by decide) (.inr (by decide)) ?_
     placed_of0
     refine is_curve_ci (a := 0) (b := 0) (c := 1) (k := 3) (bz_mono bz_0 (by decide)) (bz_mono bz_0 (by decide)) (bz_mono bz_1 (by decide)) (by decide) ?_
     rw [show decide ((0 : Rat) < -0 / 2 * (-0 / 2) + -0 / 2 * (-0 / 2) - 1) = false by decide +kernel]
     placed_of0
     refine bent_2 (a := 1) (b := 1) (c := 0) ?_
     placed_of0
     refine bent_none ?_
     placed_of0
     refine bent_t (a := 1) (b := 0) (c := 0) ?_
     placed_of0
     exact h)
theorem law_made_ok {cs : List D} (hR : ∀ d ∈ cs, Cv d) (h : Q (.bool true)) : F__law_made [wD, .list cs] Q := by
  unfold F__law_made
  kct_strs
  refine forW_inv (I := fun ρ => ∃ s2 s3 s4, ρ = [.va wD, .va (.list cs), s2, s3, s4, .no, .no, .no, .no, .no, .no, .no, .no, .no, .no, .no, .no, .no, .no, .no, .no]) Cv ?_ ?_ _ _ ⟨_, _, _, rfl⟩ hR
  · rintro d ρ nx' ct' hd ⟨s2, s3, s4, rfl⟩ hnx hct
    have hd' := id hd
    cases hd with
    | @l a b c hl =>
      placed_of0
      refine is_curve_cv hd' ?_
      placed_of0
      refine turns_ln ?_
      placed_of0
      · exact cmul (show sm 2 2 by unfold sm; decide) (show sm 2 0 by unfold sm; decide) (by decide)
      placed_of0
      refine turns_ln ?_
      placed_of0
      exact hnx _ ⟨_, _, _, rfl⟩
    | @c a b c hc =>
      obtain ⟨b1, b2, b3⟩ := hc.bs
      have e1 : bz 7 (-a / 2) := bz_over (bz_neg b1) bz_2 (by decide)
      have e2 : bz 7 (-b / 2) := bz_over (bz_neg b2) bz_2 (by decide)
      have hr : bz 40 (rad a b c) := bz_mono (by unfold rad; dl_puts) (by decide)
      placed_of0
      refine is_curve_cv hd' ?_
      placed_of0
      refine turns_ci hc fun d1 d2 _ _ => ?_
      placed_of0
      · exact cmul (show sm 2 2 by unfold sm; decide) (show sm 2 1 by unfold sm; decide) (by decide)
      placed_of0
      refine turns_ci hc fun d1 d2 t1 t2 => ?_
      placed_of0
      obtain ⟨p, q, C, rfl, hp, o⟩ := t1
      refine on_ci hc hp o _ ?_
      placed_of0
      obtain ⟨p, q, C, rfl, hp, o⟩ := t2
      refine on_ci hc hp o _ ?_
      placed_of0
      refine middle_ok (k := 5) b1 b2 (by decide) ?_
      placed_of0
      refine radius_ok (k := 10) (bz_mono b1 (by decide)) (bz_mono b2 (by decide)) b3 (by decide) ?_
      rw [show -a / 2 * (-a / 2) + -b / 2 * (-b / 2) - c = rad a b c from rfl]
      placed_of0
      refine circle_ok hc.2.2.2 (k := 40) (bz_mono e1 (by decide)) (bz_mono e2 (by decide)) hr (by decide) ?_
      rw [show -2 * (-a / 2) = a by grind, show -2 * (-b / 2) = b by grind, show -a / 2 * (-a / 2) + -b / 2 * (-b / 2) - rad a b c = c by unfold rad; grind]
      placed_of0
      rw [eqv_ci, decide_eq_true ⟨rfl, rfl, rfl⟩]
      placed_of0
      refine point_of_ok ?_
      placed_of0
      rw [← nrm_0 (-a / 2) 2, ← nrm_0 (-b / 2) 2]
      refine sside_ci (pb_plain (bz_mono e1 (by decide)) (bz_mono e2 (by decide))) b1 b2 b3 ?_
      rw [show a * 0 + b * 0 + 2 * (-a / 2 * 0 + -b / 2 * 0) = 0 by grind, sg1_0, sgn_neg (by have := hc.2.2.2; unfold rad at this; grind)]
      placed_of0
      exact hnx _ ⟨_, _, _, rfl⟩
  · rintro ρ ⟨s2, s3, s4, rfl⟩
    placed_of0
    rw [show rngD 0 (Int.toNat 3) = [.int 0, .int 1, .int 2] from rfl]
    placed_of0
    refine next_ok (by decide) fun x x0 x1 => ?_
    placed_of0
    refine next_ok (by decide) fun y y0 y1 => ?_
    placed_of0
    refine next_ok (by decide) fun u u0 u1 => ?_
    placed_of0
    refine next_ok (by decide) fun v v0 v1 => ?_
    placed_of0
    refine next_ok (by decide) fun p p0 p1 => ?_
    placed_of0
    refine next_ok (by decide) fun q q0 q1 => ?_
    placed_of0
    have hx := small_bz x0 x1
    have hy := small_bz y0 y1
    have hu := small_bz u0 u1
    have hv := small_bz v0 v1
    have hp := small_bz p0 p1
    have hq := small_bz q0 q1
    generalize x - 3 = x at *
    generalize y - 3 = y at *
    generalize u - 3 = u at *
    generalize v - 3 = v at *
    generalize p - 3 = p at *
    generalize q - 3 = q at *
    have sx : sm 3 x := hx.1
    have sy : sm 3 y := hy.1
    have su : sm 3 u := hu.1
    have sv : sm 3 v := hv.1
    have sp : sm 3 p := hp.1
    have sq : sm 3 q := hq.1
    unfold sTryH
    placed_of0
    show FX_circle_through [pt (x : Rat) (y : Rat), pt (u : Rat) (v : Rat), pt (p : Rat) (q : Rat)] _
    refine xthrough_ok hx hy hu hv hp hq (by decide) (fun z => ?_) fun m n z q1 q2 bm bn => ?_
    · refine ⟨fun w hw => ?_, fun hw => by cases hw⟩
      cases hw
      simp only [List.set_cons_succ, List.set_cons_zero]
      placed_of0
      · exact cmul (sm_sub su sx) (sm_sub sq sy) (by decide)
      placed_of0
      · exact cmul (sm_sub sv sy) (sm_sub sp sx) (by decide)
      placed_of0
      have hz : (u - x) * (q - y) = (v - y) * (p - x) := by
        have : (((u - x) * (q - y) : Int) : Rat) = (((v - y) * (p - x) : Int) : Rat) := by
          rw [Rat.intCast_mul, Rat.intCast_mul, Rat.intCast_sub, Rat.intCast_sub, Rat.intCast_sub, Rat.intCast_sub]
          grind
        exact_mod_cast this
      rw [eqv_int, decide_eq_true hz]
      tb_start
      tb_rel
      exact made_tail hx hy hu hv hp hq h
    · refine ⟨fun w hw => (by cases hw), fun _ => ?_⟩
      have br : bz 420 (((x : Rat) - m) * (x - m) + (y - n) * (y - n)) := bz_mono (by dl_puts) (by decide)
      have ba : bz 830 (-2 * m) := bz_mono (bz_mul bz_m2 bm) (by decide)
      have bb : bz 830 (-2 * n) := bz_mono (bz_mul bz_m2 bn) (by decide)
      have bc : bz 830 (m * m + n * n - (((x : Rat) - m) * (x - m) + (y - n) * (y - n))) := bz_mono (bz_sub (bz_add (bz_mul bm bm) (bz_mul bn bn)) br) (by decide)
      placed_of0
      refine point_int ?_
      placed_of0
      refine lsign_pci hx hy ba bb bc (by grind) ?_
      placed_of0
      refine point_int ?_
      placed_of0
      refine lsign_pci hu hv ba bb bc (by grind) ?_
      placed_of0
      refine point_int ?_
      placed_of0
      refine lsign_pci hp hq ba bb bc (by grind) ?_
      repeat (first | (with_reducible exact made_tail hx hy hu hv hp hq h) | tb_rel | tb_start)
end


section
variable {k l n ka kb kc kd ke kf : Nat} {a b c d e f g m p q r s t u v x y z p' q' r' s' C X Y M N : Rat} {Q : D → Prop} {D1 D2 : D}
/-! ### a spot, and the whole -/
theorem meet_any (h1 : Cv D1) (h2 : Cv D2) (h0 : PyData.eqv D1 D2 = false) (h : Q (.bool true)) : F__law_meet [D1, D2] Q := by
  cases h1 with
  | l h1 =>
    cases h2 with
    | l h2 => exact meet_ll h1 h2 h
    | c h2 => exact meet_lc h1 h2 h
  | c h1 =>
    cases h2 with
    | l h2 => exact meet_cl h2 h1 h
    | c h2 =>
      rw [eqv_ci] at h0
      exact meet_cc (of_decide_eq_false h0) h1 h2 h
def hfD (i : Int) : D := if i.fdiv 2 * 2 = i then .tuple [.int (i.fdiv 2), .int 1] else .tuple [.int i, .int 2]
theorem hf_all : ∀ k : _root_.Fin 13, (if ((k.val : Int) - 6).fdiv 2 * 2 = (k.val : Int) - 6 then (((k.val : Int) - 6).fdiv 2, (1 : Int)) else ((k.val : Int) - 6, 2)) = ((Rat.divInt ((k.val : Int) - 6) 2).num, ((Rat.divInt ((k.val : Int) - 6) 2).den : Int)) := by decide +kernel
theorem hf_dr {i : Int} (h0 : 0 ≤ i) (h1 : i < 13) : hfD (i - 6) = dr (Rat.divInt (i - 6) 2) := by
  have h := hf_all ⟨i.toNat, by omega⟩
  have e : (i.toNat : Int) = i := by omega
  simp only [e] at h
  unfold hfD
  by_cases g : (i - 6).fdiv 2 * 2 = i - 6
  · rw [if_pos g] at h ⊢
    rw [Prod.mk.injEq] at h
    show PyData.tuple _ = PyData.tuple _
    rw [← h.1, ← h.2]
  · rw [if_neg g] at h ⊢
    rw [Prod.mk.injEq] at h
    show PyData.tuple _ = PyData.tuple _
    rw [← h.1, ← h.2]
theorem hf_bz {i : Int} (h0 : 0 ≤ i) (h1 : i < 13) : bz 4 (Rat.divInt (i - 6) 2) := bz_div (by decide) (sm_of (by omega) (by omega)) (by unfold sm; decide)
abbrev sp2 (i j : Int) : D := .tuple [.tuple [.tuple [.int i, .int 2], .tuple [.int 0, .int 1], .tuple [.int 0, .int 1]], .tuple [.tuple [.int j, .int 2], .tuple [.int 0, .int 1], .tuple [.int 0, .int 1]]]
theorem spot_ok (h : ∀ i j, 0 ≤ i → i < 13 → 0 ≤ j → j < 13 → Q (sp2 (i - 6) (j - 6))) : F__law_spot [wD] Q := by
  unfold F__law_spot
  placed_of0
  refine next_ok (by decide) fun i i0 i1 => ?_
  placed_of0
  refine next_ok (by decide) fun j j0 j1 => ?_
  placed_of0
  exact h i j i0 i1 j0 j1
theorem least_ok2 {i j : Int} (i0 : 0 ≤ i) (i1 : i < 13) (j0 : 0 ≤ j) (j1 : j < 13) (h : Q (.tuple [rt (Rat.divInt (i - 6) 2) 0 0, rt (Rat.divInt (j - 6) 2) 0 0])) : F__law_least [sp2 (i - 6) (j - 6)] Q := by
  have ei := hf_dr i0 i1
  have ej := hf_dr j0 j1
  have si : sm 4 (i - 6) := sm_of (by omega) (by omega)
  have sj : sm 4 (j - 6) := sm_of (by omega) (by omega)
  unfold hfD at ei ej
  generalize i - 6 = i at *
  generalize j - 6 = j at *
  unfold F__law_least
  have fi : sm 4 (i.fdiv 2) := by
    have : i.fdiv 2 = i / 2 := Int.fdiv_eq_ediv_of_nonneg _ (by decide)
    rw [this]; unfold sm at *; omega
  have fj : sm 4 (j.fdiv 2) := by
    have : j.fdiv 2 = j / 2 := Int.fdiv_eq_ediv_of_nonneg _ (by decide)
    rw [this]; unfold sm at *; omega
  have s2 : sm 2 2 := sm_2
  have key : ∀ (t : Int), sm 4 t → sm 4 (t.fdiv 2) → (if t.fdiv 2 * 2 = t then PyData.tuple [PyData.int (t.fdiv 2), PyData.int 1] else PyData.tuple [PyData.int t, PyData.int 2]) = dr (Rat.divInt t 2) → ∀ (s0 s1 s2 : Sl) (K : D → Prop), K (dr (Rat.divInt t 2)) →
      eIf (mAnd (eT (eOp fEq (eOp fMul (eOp fDiv (eVar 3) (eC (.int 2))) (eC (.int 2))) (eVar 3))) (eT (eOp fEq (eVar 4) (eC (.int 2))))) (eTup (aCons (eOp fDiv (eVar 3) (eC (.int 2))) (aCons (eC (.int 1)) aNil))) (eTup (aCons (eVar 3) (aCons (eVar 4) aNil))) [s0, s1, s2, .va (.int t), .va (.int 2)] K := by
    intro t t1 t2 et s0 s1 s2' K hK
    placed_of0
    · exact cdv s2 (by decide) (by decide)
    placed_of0
    · exact cmul t2 s2 (by decide)
    placed_of0
    rw [eqv_int]
    by_cases g : t.fdiv 2 * 2 = t
    · rw [if_pos g] at et
      rw [decide_eq_true g]
      placed_of0
      · exact cdv s2 (by decide) (by decide)
      placed_of0
      rw [et]
      exact hK
    · rw [if_neg g] at et
      rw [decide_eq_false g]
      placed_of0
      rw [et]
      exact hK
  repeat (first | (with_reducible refine key _ si fi ei _ _ _ _ ?_) | (with_reducible refine key _ sj fj ej _ _ _ _ ?_) | tb_rel | tb_start)
  exact h
theorem hd_law91 : ∀ ns : List Int, ns.length ≤ 63 → D_law (env0 13 [scr ns]) IsDraws := by
  intro ns hn
  rw [show env0 13 [scr ns] = [.va (scr ns), .no, .no, .no, .no, .no, .no, .no, .no, .no, .no, .no, .no] from rfl]
  unfold D_law
  placed_of0
  exact draws_ok hn (by decide) (by decide) fun ms hm => ⟨ms, rfl, by omega⟩
theorem atI_at {cs : List D} {k : Nat} (hk : k < cs.length) : atI cs (0 + (k : Int)) = some cs[k] := by
  have e : ixN cs.length (0 + (k : Int)) = some k := by
    unfold ixN
    rw [if_pos (by omega), if_pos (by omega), Int.zero_add, Int.toNat_natCast]
  unfold atI
  rw [e]
  exact List.getElem?_eq_getElem hk
theorem rng_mem {n : Nat} {d : D} (h : d ∈ rngD 0 n) : ∃ k : Nat, k < n ∧ d = .int (0 + (k : Int)) := by
  unfold rngD at h
  rw [List.mem_map] at h
  obtain ⟨k, hk, rfl⟩ := h
  exact ⟨k, List.mem_range.mp hk, rfl⟩
theorem lsign_q (hx : bz 4 x) (hy : bz 4 y) (ha : bz 830 a) (hb : bz 830 b) (hc : bz 830 c) (h : Q (.int (sgn (a * x + b * y + c)))) : F__law_sign [ln a b c, .tuple [rt x 0 0, rt y 0 0]] Q := by
  rw [← nrm_0 x 2, ← nrm_0 y 2]
  refine lsign_ln (k := 4) (l := 830) (m := 2) nsq_2 hx (bz_mono bz_0 (by decide)) hy (bz_mono bz_0 (by decide)) bz_2 ha hb hc (by decide) ?_
  rw [show a * 0 + b * 0 = 0 by grind, sg1_0]
  exact h
theorem line_val {f : Rat} (hf : f ≠ 0) : (a / f * x + b / f * y + c / f) * f = a * x + (b * y + c) := by
  have h1 : a / f * f = a := Rat.div_mul_cancel hf
  have h2 : b / f * f = b := Rat.div_mul_cancel hf
  have h3 : c / f * f = c := Rat.div_mul_cancel hf
  generalize a / f = A at *
  generalize b / f = B at *
  generalize c / f = K at *
  grind
theorem hs_law91 : ∀ ns : List Int, ns.length ≤ 63 → R_law (env0 13 [scr ns, .dict []]) { nx := fun _ => False, rt := fun d => d = .bool true, bk := fun _ => False, ct := fun _ => False } := by
  intro ns hn
  rw [show env0 13 [scr ns, .dict []] = [.va (scr ns), .va wD, .no, .no, .no, .no, .no, .no, .no, .no, .no, .no, .no] from rfl]
  unfold R_law
  kct_strs
  refine forW_inv (I := fun ρ => ∃ s2 s3 s4 s5 s6 s7 s8 s9 s10 s11, ρ = [.va (scr ns), .va wD, s2, s3, s4, s5, s6, s7, s8, s9, s10, s11, .no]) (fun _ => True) ?_ ?_ _ _ ⟨_, _, _, _, _, _, _, _, _, _, rfl⟩ fun _ _ => trivial
  · rintro d ρ nx' ct' _ ⟨s2, s3, s4, s5, s6, s7, s8, s9, s10, s11, rfl⟩ hnx hct
    placed_of0
    refine fractions_ok ?_
    placed_of0
    refine roots_ok (fun Q h => sums_ok h) ?_
    placed_of0
    refine curves_ok fun cs hl hR => ?_
    placed_of0
    refine w_kR1 (by omega) (by omega) ?_
    refine forW_inv (I := fun ρ => ∃ s4, ρ = [.va (scr ns), .va wD, .va d, .va (.list cs), s4, s5, s6, s7, s8, s9, s10, s11, .no]) (fun z => ∃ k : Nat, k < cs.length ∧ z = .int (0 + (k : Int))) ?_ ?_ _ _ ⟨_, rfl⟩ (fun z hz => rng_mem hz)
    · rintro z ρ nx2 ct2 ⟨k, hk, rfl⟩ ⟨s4, rfl⟩ hnx2 hct2
      placed_of0
      refine w_kR1 (by omega) (by omega) ?_
      refine w_and (by unfold rngD; rw [List.length_map, List.length_range]; omega) ?_
      refine lcW_no _ _ (fun z hz T F hF => ?_) ?_
      · obtain ⟨n, hn, rfl⟩ := rng_mem hz
        have hn : n < k := by omega
        placed_of0
        refine w_ixL (atI_at (show n < cs.length by omega)) ?_
        placed_of0
        refine w_ixL (atI_at hk) ?_
        placed_of0
        refine meet_any (hR.cv _ (List.getElem_mem _)) (hR.cv _ (List.getElem_mem _)) (List.pairwise_iff_getElem.mp hR.ne n k (by omega) hk hn) ?_
        placed_of0
        exact hF
      · placed_of0
        exact hnx2 _ ⟨_, rfl⟩
    · rintro ρ ⟨s4, rfl⟩
      placed_of0
      refine law_made_ok hR.cv ?_
      placed_of0
      rw [show rngD 0 (Int.toNat 3) = [.int 0, .int 1, .int 2] from rfl]
      placed_of0
      refine next_ok (by decide) fun a a0 a1 => ?_
      placed_of0
      refine next_ok (by decide) fun b b0 b1 => ?_
      placed_of0
      refine next_ok (by decide) fun c c0 c1 => ?_
      placed_of0
      have ba : bz 3 ((a - 2 : Int) : Rat) := bz_int (sm_of (by omega) (by omega)) (by decide)
      have bb : bz 3 ((b - 2 : Int) : Rat) := bz_int (sm_of (by omega) (by omega)) (by decide)
      have bc : bz 3 ((c - 2 : Int) : Rat) := bz_int (sm_of (by omega) (by omega)) (by decide)
      generalize a - 2 = a at *
      generalize b - 2 = b at *
      generalize c - 2 = c at *
      rw [show PyData.eqv (.tuple [.tuple [.int a, .int 1], .tuple [.int b, .int 1]]) (.tuple [.tuple [.int 0, .int 1], .tuple [.int 0, .int 1]]) = decide ((a : Rat) = 0 ∧ (b : Rat) = 0) from eqv_pt a b 0 0]
      by_cases h0 : (a : Rat) = 0 ∧ (b : Rat) = 0
      · rw [decide_eq_true h0]
        placed_of0
        exact hnx _ ⟨_, _, _, _, _, _, _, _, _, _, rfl⟩
      · rw [decide_eq_false h0]
        have hf0 := fst_ne h0
        have bf : bz 3 (fst' (a : Rat) b) := bz_fst ba bb
        have b1 : bz 830 ((a : Rat) / fst' (a : Rat) b) := bz_mono (bz_over ba bf hf0) (by decide)
        have b2 : bz 830 ((b : Rat) / fst' (a : Rat) b) := bz_mono (bz_over bb bf hf0) (by decide)
        have b3 : bz 830 ((c : Rat) / fst' (a : Rat) b) := bz_mono (bz_over bc bf hf0) (by decide)
        have ra : Rv a 1 (a : Rat) 3 := rv_lit ba.1 (by decide)
        have rb : Rv b 1 (b : Rat) 3 := rv_lit bb.1 (by decide)
        have rc : Rv c 1 (c : Rat) 3 := rv_lit bc.1 (by decide)
        placed_of0
        show F_line [dr (a : Rat), dr (b : Rat), dr (c : Rat)] _
        refine line_ok2 h0 ba bb bc (by decide) ?_
        placed_of0
        refine spot_ok fun i j i0 i1 j0 j1 => ?_
        placed_of0
        refine least_ok2 i0 i1 j0 j1 ?_
        have bx := hf_bz i0 i1
        have bY := hf_bz j0 j1
        have e := fun x y : Rat => line_val (a := a) (b := b) (c := c) (x := x) (y := y) hf0
        generalize fst' (a : Rat) b = f at *
        generalize Rat.divInt (i - 6) 2 = x at *
        generalize Rat.divInt (j - 6) 2 = y at *
        have e := e x y
        have hn : decide (f.num < 0) = !decide (0 < f) := by
          by_cases g : 0 < f
          · have := Rat.num_nonneg.mpr (Rat.le_of_lt g)
            rw [decide_eq_true g, decide_eq_false (by omega)]; rfl
          · have h1 := sgn_neg (r := f) (by grind)
            rw [decide_eq_false g, decide_eq_true (Int.sign_eq_neg_one_iff_neg.mp h1)]; rfl
        have hc := sgn_times ((a : Rat) / f * x + b / f * y + c / f) f hf0
        rw [e] at hc
        have hS := sm_sgn ((a : Rat) / f * x + b / f * y + c / f).num
        placed_of1
        refine lsign_q bx bY b1 b2 b3 ?_
        rw [hn]
        by_cases g : 0 < f
        · rw [if_pos g] at hc
          rw [decide_eq_true g]
          placed_of1
          · exact cmul hS (show sm 1 1 by unfold sm; decide) (by decide)
          rw [hc]
          placed_of1
          rw [eqv_int, decide_eq_true rfl]
          placed_of0
          exact hnx _ ⟨_, _, _, _, _, _, _, _, _, _, rfl⟩
        · rw [if_neg g] at hc
          rw [decide_eq_false g]
          placed_of1
          · exact cmul hS (show sm 1 (-1) by unfold sm; decide) (by decide)
          rw [hc]
          placed_of1
          rw [eqv_int, decide_eq_true rfl]
          placed_of0
          exact hnx _ ⟨_, _, _, _, _, _, _, _, _, _, rfl⟩
  · rintro ρ ⟨s2, s3, s4, s5, s6, s7, s8, s9, s10, s11, rfl⟩
    placed_of0
    rfl
end

def topS (i : Nat) : Stmt := PySem.Challenge.pw_cornersexact_k91_whole_numbers_and_curve.main.body.getD i (.Pass ⟨0, 0, 0, 0⟩)
theorem boot_t_bool : bootBuiltins "bool" = some (.type "bool") := by decide +kernel
theorem boot_t_int : bootBuiltins "int" = some (.type "int") := by decide +kernel
theorem boot_t_list : bootBuiltins "list" = some (.type "list") := by decide +kernel
theorem boot_t_str : bootBuiltins "str" = some (.type "str") := by decide +kernel
theorem boot_t_tuple : bootBuiltins "tuple" = some (.type "tuple") := by decide +kernel
abbrev s__law_draws : Stmt := topS 75
abbrev s__law_next : Stmt := topS 76
abbrev s_common : Stmt := topS 9
abbrev s_fraction : Stmt := topS 10
abbrev s_minus : Stmt := topS 14
abbrev s_sign_of : Stmt := topS 5
abbrev s_sign : Stmt := topS 20
abbrev s_added : Stmt := topS 13
abbrev s_times : Stmt := topS 15
abbrev s_square : Stmt := topS 18
abbrev s_circle : Stmt := topS 42
abbrev s_over : Stmt := topS 16
abbrev s_line : Stmt := topS 41
abbrev s__law_curves : Stmt := topS 83
abbrev s_circle_through : Stmt := topS 50
abbrev s_turned : Stmt := topS 17
abbrev s_line_through : Stmt := topS 49
abbrev s_half : Stmt := topS 19
abbrev s_middle_of : Stmt := topS 43
abbrev s__law_plus : Stmt := topS 77
abbrev s__law_side : Stmt := topS 79
abbrev s__law_by : Stmt := topS 78
abbrev s__law_rooted : Stmt := topS 80
abbrev s__law_sign : Stmt := topS 81
abbrev s_radius_of : Stmt := topS 44
abbrev s_is_number : Stmt := topS 4
abbrev s_is_fraction : Stmt := topS 12
abbrev s_is_curve : Stmt := topS 45
abbrev s_plain : Stmt := topS 26
abbrev s_point_of : Stmt := topS 61
abbrev s_whole_root : Stmt := topS 28
abbrev s_tidy : Stmt := topS 29
abbrev s_turns_of : Stmt := topS 60
abbrev s_sign_of_root : Stmt := topS 30
abbrev s_added_root : Stmt := topS 33
abbrev s_by_fraction : Stmt := topS 37
abbrev s_times_root : Stmt := topS 36
abbrev s_value_at : Stmt := topS 47
abbrev s_sign_at : Stmt := topS 48
abbrev s__law_made : Stmt := topS 94
abbrev s__law_least : Stmt := topS 86
abbrev s_is_less : Stmt := topS 21
abbrev s_middle : Stmt := topS 24
abbrev s_sum_of : Stmt := topS 22
abbrev s_whole : Stmt := topS 11
abbrev s_floor : Stmt := topS 23
abbrev s__law_same : Stmt := topS 87
abbrev s__law_fractions : Stmt := topS 89
abbrev s_sign_of_two : Stmt := topS 31
abbrev s_compare : Stmt := topS 32
abbrev s_sorted_roots : Stmt := topS 70
abbrev s_turned_root : Stmt := topS 35
abbrev s_minus_root : Stmt := topS 34
abbrev s_over_root : Stmt := topS 38
abbrev s_root_of : Stmt := topS 39
abbrev s_is_root : Stmt := topS 27
abbrev s__law_sums : Stmt := topS 92
abbrev s__law_root : Stmt := topS 90
abbrev s_bound_of : Stmt := topS 63
abbrev s_floor_of : Stmt := topS 64
abbrev s_rounded : Stmt := topS 66
abbrev s_digits_of : Stmt := topS 67
abbrev s_near_by : Stmt := topS 68
abbrev s_rank_of : Stmt := topS 73
abbrev s__law_gap : Stmt := topS 88
abbrev s_between : Stmt := topS 65
abbrev s_least_of : Stmt := topS 71
abbrev s_greatest_of : Stmt := topS 72
abbrev s__law_roots : Stmt := topS 91
abbrev s__law_spot : Stmt := topS 85
abbrev s_compare_points : Stmt := topS 58
abbrev s_in_order : Stmt := topS 59
abbrev s_of_lines : Stmt := topS 54
abbrev s_is_upright : Stmt := topS 46
abbrev s_both_roots : Stmt := topS 53
abbrev s_of_line_and_circle : Stmt := topS 55
abbrev s_same_power : Stmt := topS 56
abbrev s_meets : Stmt := topS 57
abbrev s_touch_kind : Stmt := topS 51
abbrev s__law_meet : Stmt := topS 93
abbrev s_law : Stmt := topS 95
section
variable {P : Program} {w : PySem.World} {K : PySem.W.Frag} {mg : Str → Option Value} {base : Heap} {C CP : Addr}
theorem ok__law_draws {f : Addr} {fd : FuncData} (F : Fun K "_law_draws" "_law_draws" s__law_draws f fd) (gm : mg "_law_draws" = some (.ref f)) (b_range : mg "range" = none) (b_len : mg "len" = none) (b_abs : mg "abs" = none) (b_int : mg "int" = none) : Df P w K mg base "_law_draws" 2 1 F__law_draws := by
  have nd : (["script", "many", "draws", "mixed", "k", "cell", "rest", "turn"] : List Str).Nodup := by decide +kernel
  refine df_of (N := ["script", "many", "draws", "mixed", "k", "cell", "rest", "turn"]) (ps := ["script", "many"]) F ⟨rfl, rfl, rfl, nd, rfl, by decide +kernel, by decide +kernel⟩ rfl rfl gm (F.binds (ps := ["script", "many"]) fun _ _ _ _ _ _ us hl => match us, hl with | [_, _], _ => rfl) fun cdv A outer s0 H E aw hr => ?_
  exact (ss_cons (ss_own (i := 2) (fun _ he => ps_set (i := 2) nd rfl (Or.inl rfl) he) sa_nil) (ss_cons (ss_set (i := 3) nd rfl (Or.inl rfl) se_int) (ss_cons (ss_for PassesOwn.never rfl (si_rng1 rfl b_range (sa_cons (se_len rfl b_len (sa_cons (se_var (pv 0)) sa_nil)) sa_nil)) (sg_name (pg_name (i := 4) nd rfl (Or.inl rfl))) (ss_cons (ss_set (i := 5) nd rfl (Or.inl rfl) (se_abs rfl b_abs (sa_cons (se_intc rfl b_int (sa_cons (se_ix (se_var (pv 0)) (se_var (pv 4))) sa_nil)) sa_nil))) (ss_cons (ss_set (i := 3) nd rfl (Or.inl rfl) (se_mod (se_intc rfl b_int (sa_cons (se_add (se_add (se_mul (se_var (pv 3)) se_int) (se_mod (se_var (pv 5)) se_int)) (se_var (pv 4))) sa_nil)) se_int)) (ss_cons (ss_set (i := 6) nd rfl (Or.inl rfl) se_int) (ss_cons (ss_if (st_ge (se_var (pv 5)) (se_pow se_int se_int)) (ss_one (ss_set (i := 6) nd rfl (Or.inl rfl) (se_var (pv 5)))) (ss_cons (ss_app (ps_expr (pe_bm PySem.F.plainAttrs_list PySem.F.slot_list_append PySem.F.type_list_append mt_append (pv 2) (sa_cons (se_mod (se_intc rfl b_int (sa_cons (se_var (pv 5)) sa_nil)) se_int) sa_nil)))) (ss_one (ss_app (ps_expr (pe_bm PySem.F.plainAttrs_list PySem.F.slot_list_append PySem.F.type_list_append mt_append (pv 2) (sa_cons (se_mod (se_mod (se_intc rfl b_int (sa_cons (se_add (se_mul (se_var (pv 3)) se_int) se_int) sa_nil)) se_int) se_int) sa_nil))))))) (ss_one (ss_for PassesOwn.never rfl (si_rng1 rfl b_range (sa_cons se_int sa_nil)) (sg_name (pg_name (i := 7) nd rfl (Or.inl rfl))) (ss_one (ss_if (st_gt (se_var (pv 6)) se_int) (ss_cons (ss_app (ps_expr (pe_bm PySem.F.plainAttrs_list PySem.F.slot_list_append PySem.F.type_list_append mt_append (pv 2) (sa_cons (se_mod (se_intc rfl b_int (sa_cons (se_var (pv 6)) sa_nil)) se_int) sa_nil)))) (ss_one (ss_set (i := 6) nd rfl (Or.inl rfl) (se_div (se_var (pv 6)) se_int)))) ss_nil))))))))) (ss_cons (ss_for PassesOwn.never rfl (si_rng1 rfl b_range (sa_cons (se_var (pv 1)) sa_nil)) (sg_name (pg_name (i := 4) nd rfl (Or.inl rfl))) (ss_cons (ss_set (i := 3) nd rfl (Or.inl rfl) (se_mod (se_intc rfl b_int (sa_cons (se_add (se_add (se_mul (se_var (pv 3)) se_int) (se_var (pv 4))) se_int) sa_nil)) se_int)) (ss_one (ss_app (ps_expr (pe_bm PySem.F.plainAttrs_list PySem.F.slot_list_append PySem.F.type_list_append mt_append (pv 2) (sa_cons (se_mod (se_intc rfl b_int (sa_cons (se_var (pv 3)) sa_nil)) se_int) sa_nil))))))) (ss_freeze (i := 2) (ss_one (ss_ret (se_sl (se_var (pv 2)) so_none (so_some (se_var (pv 1)))))))))))
theorem ok__law_next {f : Addr} {fd : FuncData} (F : Fun K "_law_next" "_law_next" s__law_next f fd) (gm : mg "_law_next" = some (.ref f)) (b_len : mg "len" = none) (b_int : mg "int" = none) : Df P w K mg base "_law_next" 2 1 F__law_next := by
  have nd : (["w", "many"] : List Str).Nodup := by decide +kernel
  refine ⟨f, fd, ["w", "many"], rfl, gm, F.kp, F.binds (ps := ["w", "many"]) fun _ _ _ _ _ _ us hl => match us, hl with | [_, _], _ => rfl, F.ok (N := ["w", "many"]) ⟨rfl, rfl, rfl, nd, rfl, by decide +kernel, by decide +kernel⟩ (fun vs H Q E h => ?_) (fun cdv A outer s0 H vs Q E hr h => ?_)⟩
  · obtain ⟨_, _, _, _, h, _⟩ := h
    exact h
  · obtain ⟨aw, B, ds, P', hl, wl, hB, r, hF, q⟩ := h
    have hu : (A.deeper (envOfC (Str.ofString "_law_next") (defScope s__law_next) s0.heap.objs.size f cdv)).units + 1 < cLine := by have := hr.un; omega
    refine ⟨_, pss_cons (ps_daug hu (pv 0) pe_str pe_int in_add (by intro _ _ _; rfl))
      (pss_cons (ps_if (pt_cmpR op_gt (pe_dget hu (pv 0) pe_str (fun _ _ => rfl)) (pe_callB call_len_seq (by rfl) b_len PySem.boot_len (pa_cons (pe_dget hu (pv 0) pe_str (fun _ _ => rfl)) pa_nil)) (nomark _)) (pss_one (ps_ret pe_int)) pss_nil)
      (pss_one (ps_ret (pe_op op_modN (pe_callTy call_int1 (by rfl) b_int (by decide +kernel) (pa_cons (pe_ix ix_list (pe_dget hu (pv 0) pe_str (fun _ _ => rfl)) (pe_op op_sub (pe_dget hu (pv 0) pe_str (fun _ _ => rfl)) pe_int) (fun _ _ => rfl)) pa_nil)) (pv 1))))), ?_⟩
    unfold F__law_next F_next at hF
    split at hF
    · rename_i m
      obtain ⟨hm, hF⟩ := hF
      cases r with
      | cons r0 rr =>
      cases rr with
      | cons r1 rr =>
      cases rr
      cases r1
      cases r0 with
      | wld ea hd =>
      rename_i a kvs
      subst ea
      obtain ⟨ld, n, ns, h1, h2, h0, hlen⟩ := wl a rfl
      obtain ⟨a1, a2⟩ := cut_some h1
      obtain ⟨b1, b2⟩ := cut_some h2
      have ne : ld ≠ a := fun z => by rw [z, a1] at b1; cases b1
      obtain ⟨ex, wx⟩ := world_step h1 h2 h0 hlen
      refine ⟨_, rfl, a, .int n, rfl, .inl ⟨_, .inr "at", .inl a1, rfl, (w_at ld n).symm⟩, n, 1, rfl, rfl, _, .inl ⟨_, .inr "at", a1, rfl, (by show 2 < sizeLine; decide), rfl⟩, ?_⟩
      rw [w_put]
      have g1 : (upd H a (.dK [(.inr "draws", .ref ld), (.inr "at", .int (n + 1))])) a = some (.dK [(.inr "draws", .ref ld), (.inr "at", .int (n + 1))]) := upd_same
      have g2 : (upd H a (.dK [(.inr "draws", .ref ld), (.inr "at", .int (n + 1))])) ld = some (.lst (ns.map V.int)) := by rw [upd_ne ne]; exact b1
      refine ⟨_, rfl, a, _, rfl, .inl ⟨_, .inr "at", .inl g1, rfl, (w_at ld (n + 1)).symm⟩, _, rfl, a, _, rfl, .inl ⟨_, .inr "draws", .inl g1, rfl, (w_draws ld (n + 1)).symm⟩, ld, _, rfl, .inl (.inl (.inl g2)), n + 1, ((ns.map V.int).length : Nat), rfl, rfl, _, rfl, ?_⟩
      by_cases hc : ((ns.map V.int).length : Int) < n + 1
      · rw [decide_eq_true hc]
        exact q _ _ _ ex wx (.int 0) (hF 0 (by omega) hm)
      · rw [decide_eq_false hc]
        have hi : n.toNat < ns.length := by
          rw [List.length_map] at hc
          omega
        refine ⟨_, rfl, a, _, rfl, .inl ⟨_, .inr "draws", .inl g1, rfl, (w_draws ld (n + 1)).symm⟩, _, rfl, a, _, rfl, .inl ⟨_, .inr "at", .inl g1, rfl, (w_at ld (n + 1)).symm⟩, n + 1, 1, rfl, rfl, ld, _, n + 1 - 1, .int ns[n.toNat], rfl, rfl, .inl (.inl g2), ?_, .inl ⟨_, rfl, _, rfl, _, m, rfl, rfl, ?_, ?_⟩⟩
        · have e : n + 1 - 1 = ((n.toNat : Nat) : Int) := by omega
          rw [e]
          refine atI_nat ?_
          rw [List.getElem?_map, List.getElem?_eq_getElem hi]
          rfl
        · omega
        · refine q _ _ _ ex wx (.int _) (hF _ ?_ ?_)
          · rw [Int.fmod_eq_emod_of_nonneg _ (by omega)]; exact Int.emod_nonneg _ (by omega)
          · exact Int.fmod_lt_of_pos _ hm
    · cases hF
theorem ok_common {f : Addr} {fd : FuncData} (F : Fun K "common" "common" s_common f fd) (gm : mg "common" = some (.ref f)) (b_abs : mg "abs" = none) : Df P w K mg base "common" 2 1 F_common := by
  have nd : (["a", "b"] : List Str).Nodup := by decide +kernel
  refine df_of (N := ["a", "b"]) (ps := ["a", "b"]) F ⟨rfl, rfl, rfl, nd, rfl, by decide +kernel, by decide +kernel⟩ rfl rfl gm (F.binds (ps := ["a", "b"]) fun _ _ _ _ _ _ us hl => match us, hl with | [_, _], _ => rfl) fun cdv A outer s0 H E aw hr => ?_
  exact (ss_cons (ss_while PassesOwn.never (st_ne hr (se_var (pv 1)) se_int) (ss_one (ss_par (ps_par (i := 0) (j := 1) rfl nd rfl rfl (by decide) rfl rfl (sa_cons (se_var (pv 1)) (sa_cons (se_mod (se_var (pv 0)) (se_var (pv 1))) sa_nil)) (by rfl))))) (ss_one (ss_ret (se_abs rfl b_abs (sa_cons (se_var (pv 0)) sa_nil)))))
theorem ok_fraction {f : Addr} {fd : FuncData} (F : Fun K "fraction" "fraction" s_fraction f fd) (gm : mg "fraction" = some (.ref f)) (h_common : Df P w K mg base "common" 2 1 F_common) : Df P w K mg base "fraction" 2 2 F_fraction := by
  have nd : (["upper", "lower", "part"] : List Str).Nodup := by decide +kernel
  refine df_of (N := ["upper", "lower", "part"]) (ps := ["upper", "lower"]) F ⟨rfl, rfl, rfl, nd, rfl, by decide +kernel, by decide +kernel⟩ rfl rfl gm (F.binds (ps := ["upper", "lower"]) fun _ _ _ _ _ _ us hl => match us, hl with | [_, _], _ => rfl) fun cdv A outer s0 H E aw hr => ?_
  exact (ss_cons (ss_set (i := 2) nd rfl (Or.inl rfl) (se_call h_common hr (by decide) rfl (sa_cons (se_var (pv 0)) (sa_cons (se_var (pv 1)) sa_nil)))) (ss_cons (ss_if (st_lt (se_var (pv 1)) se_int) (ss_one (ss_set (i := 2) nd rfl (Or.inl rfl) (se_neg (se_var (pv 2))))) ss_nil) (ss_one (ss_ret (se_tup (sa_cons (se_div (se_var (pv 0)) (se_var (pv 2))) (sa_cons (se_div (se_var (pv 1)) (se_var (pv 2))) sa_nil)))))))
theorem ok_minus {f : Addr} {fd : FuncData} (F : Fun K "minus" "minus" s_minus f fd) (gm : mg "minus" = some (.ref f)) (h_fraction : Df P w K mg base "fraction" 2 2 F_fraction) : Df P w K mg base "minus" 2 3 F_minus := by
  have nd : (["one", "other"] : List Str).Nodup := by decide +kernel
  refine df_of (N := ["one", "other"]) (ps := ["one", "other"]) F ⟨rfl, rfl, rfl, nd, rfl, by decide +kernel, by decide +kernel⟩ rfl rfl gm (F.binds (ps := ["one", "other"]) fun _ _ _ _ _ _ us hl => match us, hl with | [_, _], _ => rfl) fun cdv A outer s0 H E aw hr => ?_
  exact (ss_one (ss_ret (se_call h_fraction hr (by decide) rfl (sa_cons (se_sub (se_mul (se_ix (se_var (pv 0)) se_int) (se_ix (se_var (pv 1)) se_int)) (se_mul (se_ix (se_var (pv 1)) se_int) (se_ix (se_var (pv 0)) se_int))) (sa_cons (se_mul (se_ix (se_var (pv 0)) se_int) (se_ix (se_var (pv 1)) se_int)) sa_nil)))))
theorem ok_sign_of {f : Addr} {fd : FuncData} (F : Fun K "sign_of" "sign_of" s_sign_of f fd) (gm : mg "sign_of" = some (.ref f)) : Df P w K mg base "sign_of" 1 1 F_sign_of := by
  have nd : (["number"] : List Str).Nodup := by decide +kernel
  refine df_of (N := ["number"]) (ps := ["number"]) F ⟨rfl, rfl, rfl, nd, rfl, by decide +kernel, by decide +kernel⟩ rfl rfl gm (F.binds (ps := ["number"]) fun _ _ _ _ _ _ us hl => match us, hl with | [_], _ => rfl) fun cdv A outer s0 H E aw hr => ?_
  exact (ss_one (ss_ret (se_subB (se_gt (se_var (pv 0)) se_int) (se_lt (se_var (pv 0)) se_int))))
theorem ok_sign {f : Addr} {fd : FuncData} (F : Fun K "sign" "sign" s_sign f fd) (gm : mg "sign" = some (.ref f)) (h_sign_of : Df P w K mg base "sign_of" 1 1 F_sign_of) : Df P w K mg base "sign" 1 2 F_sign := by
  have nd : (["one"] : List Str).Nodup := by decide +kernel
  refine df_of (N := ["one"]) (ps := ["one"]) F ⟨rfl, rfl, rfl, nd, rfl, by decide +kernel, by decide +kernel⟩ rfl rfl gm (F.binds (ps := ["one"]) fun _ _ _ _ _ _ us hl => match us, hl with | [_], _ => rfl) fun cdv A outer s0 H E aw hr => ?_
  exact (ss_one (ss_ret (se_call h_sign_of hr (by decide) rfl (sa_cons (se_ix (se_var (pv 0)) se_int) sa_nil))))
theorem ok_added {f : Addr} {fd : FuncData} (F : Fun K "added" "added" s_added f fd) (gm : mg "added" = some (.ref f)) (h_fraction : Df P w K mg base "fraction" 2 2 F_fraction) : Df P w K mg base "added" 2 3 F_added := by
  have nd : (["one", "other"] : List Str).Nodup := by decide +kernel
  refine df_of (N := ["one", "other"]) (ps := ["one", "other"]) F ⟨rfl, rfl, rfl, nd, rfl, by decide +kernel, by decide +kernel⟩ rfl rfl gm (F.binds (ps := ["one", "other"]) fun _ _ _ _ _ _ us hl => match us, hl with | [_, _], _ => rfl) fun cdv A outer s0 H E aw hr => ?_
  exact (ss_one (ss_ret (se_call h_fraction hr (by decide) rfl (sa_cons (se_add (se_mul (se_ix (se_var (pv 0)) se_int) (se_ix (se_var (pv 1)) se_int)) (se_mul (se_ix (se_var (pv 1)) se_int) (se_ix (se_var (pv 0)) se_int))) (sa_cons (se_mul (se_ix (se_var (pv 0)) se_int) (se_ix (se_var (pv 1)) se_int)) sa_nil)))))
theorem ok_times {f : Addr} {fd : FuncData} (F : Fun K "times" "times" s_times f fd) (gm : mg "times" = some (.ref f)) (h_fraction : Df P w K mg base "fraction" 2 2 F_fraction) : Df P w K mg base "times" 2 3 F_times := by
  have nd : (["one", "other"] : List Str).Nodup := by decide +kernel
  refine df_of (N := ["one", "other"]) (ps := ["one", "other"]) F ⟨rfl, rfl, rfl, nd, rfl, by decide +kernel, by decide +kernel⟩ rfl rfl gm (F.binds (ps := ["one", "other"]) fun _ _ _ _ _ _ us hl => match us, hl with | [_, _], _ => rfl) fun cdv A outer s0 H E aw hr => ?_
  exact (ss_one (ss_ret (se_call h_fraction hr (by decide) rfl (sa_cons (se_mul (se_ix (se_var (pv 0)) se_int) (se_ix (se_var (pv 1)) se_int)) (sa_cons (se_mul (se_ix (se_var (pv 0)) se_int) (se_ix (se_var (pv 1)) se_int)) sa_nil)))))
theorem ok_square {f : Addr} {fd : FuncData} (F : Fun K "square" "square" s_square f fd) (gm : mg "square" = some (.ref f)) : Df P w K mg base "square" 1 1 F_square := by
  have nd : (["one"] : List Str).Nodup := by decide +kernel
  refine df_of (N := ["one"]) (ps := ["one"]) F ⟨rfl, rfl, rfl, nd, rfl, by decide +kernel, by decide +kernel⟩ rfl rfl gm (F.binds (ps := ["one"]) fun _ _ _ _ _ _ us hl => match us, hl with | [_], _ => rfl) fun cdv A outer s0 H E aw hr => ?_
  exact (ss_one (ss_ret (se_tup (sa_cons (se_mul (se_ix (se_var (pv 0)) se_int) (se_ix (se_var (pv 0)) se_int)) (sa_cons (se_mul (se_ix (se_var (pv 0)) se_int) (se_ix (se_var (pv 0)) se_int)) sa_nil)))))
theorem okx_circle {f : Addr} {fd : FuncData} (F : Fun K "circle" "circle" s_circle f fd) (gm : mg "circle" = some (.ref f)) (h_sign : Df P w K mg base "sign" 1 2 F_sign) (h_square : Df P w K mg base "square" 1 1 F_square) (h_added : Df P w K mg base "added" 2 3 F_added) (h_minus : Df P w K mg base "minus" 2 3 F_minus) (h_times : Df P w K mg base "times" 2 3 F_times) (RA : RaiseAtN P w K mg base "Unfit" C) : DxN P w K mg base C "circle" 3 4 FX_circle := by
  have nd : (["x", "y", "r", "rest"] : List Str).Nodup := by decide +kernel
  refine dxN_of (N := ["x", "y", "r", "rest"]) (ps := ["x", "y", "r"]) F ⟨rfl, rfl, rfl, nd, rfl, by decide +kernel, by decide +kernel⟩ rfl rfl gm (F.binds (ps := ["x", "y", "r"]) fun _ _ _ _ _ _ us hl => match us, hl with | [_, _, _], _ => rfl) fun cdv A outer s0 H E aw hr tk => ?_
  exact (ssxN_cons (ssxN_if (st_le (se_call h_sign hr (by decide) rfl (sa_cons (se_var (pv 2)) sa_nil)) se_int) (ssxN_one (ssxN_raise rfl tk RA hr rfl (by decide))) ssxN_nil) (ssxN_cons (ssxN_of (ss_set (i := 3) nd rfl (Or.inl rfl) (se_call h_minus hr (by decide) rfl (sa_cons (se_call h_added hr (by decide) rfl (sa_cons (se_call h_square hr (by decide) rfl (sa_cons (se_var (pv 0)) sa_nil)) (sa_cons (se_call h_square hr (by decide) rfl (sa_cons (se_var (pv 1)) sa_nil)) sa_nil))) (sa_cons (se_var (pv 2)) sa_nil))))) (ssxN_one (ssxN_of (ss_ret (se_tup (sa_cons se_int (sa_cons (se_call h_times hr (by decide) rfl (sa_cons (se_tup (sa_cons (se_neg se_int) (sa_cons se_int sa_nil))) (sa_cons (se_var (pv 0)) sa_nil))) (sa_cons (se_call h_times hr (by decide) rfl (sa_cons (se_tup (sa_cons (se_neg se_int) (sa_cons se_int sa_nil))) (sa_cons (se_var (pv 1)) sa_nil))) (sa_cons (se_var (pv 3)) sa_nil))))))))))
theorem ok_over {f : Addr} {fd : FuncData} (F : Fun K "over" "over" s_over f fd) (gm : mg "over" = some (.ref f)) (h_fraction : Df P w K mg base "fraction" 2 2 F_fraction) : Df P w K mg base "over" 2 3 F_over := by
  have nd : (["one", "other"] : List Str).Nodup := by decide +kernel
  refine df_of (N := ["one", "other"]) (ps := ["one", "other"]) F ⟨rfl, rfl, rfl, nd, rfl, by decide +kernel, by decide +kernel⟩ rfl rfl gm (F.binds (ps := ["one", "other"]) fun _ _ _ _ _ _ us hl => match us, hl with | [_, _], _ => rfl) fun cdv A outer s0 H E aw hr => ?_
  exact (ss_one (ss_ret (se_call h_fraction hr (by decide) rfl (sa_cons (se_mul (se_ix (se_var (pv 0)) se_int) (se_ix (se_var (pv 1)) se_int)) (sa_cons (se_mul (se_ix (se_var (pv 0)) se_int) (se_ix (se_var (pv 1)) se_int)) sa_nil)))))
theorem okx_line {f : Addr} {fd : FuncData} (F : Fun K "line" "line" s_line f fd) (gm : mg "line" = some (.ref f)) (k_NOTHING : Kst K mg "NOTHING" c_NOTHING) (h_over : Df P w K mg base "over" 2 3 F_over) (RA : RaiseAtN P w K mg base "Unfit" C) : DxN P w K mg base C "line" 3 4 FX_line := by
  have nd : (["a", "b", "c", "first"] : List Str).Nodup := by decide +kernel
  refine dxN_of (N := ["a", "b", "c", "first"]) (ps := ["a", "b", "c"]) F ⟨rfl, rfl, rfl, nd, rfl, by decide +kernel, by decide +kernel⟩ rfl rfl gm (F.binds (ps := ["a", "b", "c"]) fun _ _ _ _ _ _ us hl => match us, hl with | [_, _, _], _ => rfl) fun cdv A outer s0 H E aw hr tk => ?_
  exact (ssxN_cons (ssxN_of (ss_set (i := 3) nd rfl (Or.inl rfl) (se_if (st_ne hr (se_var (pv 0)) (se_glob k_NOTHING rfl)) (se_var (pv 0)) (se_var (pv 1))))) (ssxN_cons (ssxN_if (st_eq hr (se_var (pv 3)) (se_glob k_NOTHING rfl)) (ssxN_one (ssxN_raise rfl tk RA hr rfl (by decide))) ssxN_nil) (ssxN_one (ssxN_of (ss_ret (se_tup (sa_cons (se_tup (sa_cons se_int (sa_cons (se_call h_over hr (by decide) rfl (sa_cons (se_var (pv 0)) (sa_cons (se_var (pv 3)) sa_nil))) (sa_cons (se_call h_over hr (by decide) rfl (sa_cons (se_var (pv 1)) (sa_cons (se_var (pv 3)) sa_nil))) (sa_cons (se_call h_over hr (by decide) rfl (sa_cons (se_var (pv 2)) (sa_cons (se_var (pv 3)) sa_nil))) sa_nil))))) (sa_cons (se_lt (se_ix (se_var (pv 3)) se_int) se_int) sa_nil))))))))
theorem ok__law_curves {f : Addr} {fd : FuncData} (F : Fun K "_law_curves" "_law_curves" s__law_curves f fd) (gm : mg "_law_curves" = some (.ref f)) (b_range : mg "range" = none) (h__law_next : Df P w K mg base "_law_next" 2 1 F__law_next) (h_line : Df P w K mg base "line" 3 4 F_line) (h_circle : Df P w K mg base "circle" 3 4 F_circle) : Df P w K mg base "_law_curves" 2 5 F__law_curves := by
  have nd : (["w", "many", "found", "turn", "a", "b", "curve", "r"] : List Str).Nodup := by decide +kernel
  refine df_of (N := ["w", "many", "found", "turn", "a", "b", "curve", "r"]) (ps := ["w", "many"]) F ⟨rfl, rfl, rfl, nd, rfl, by decide +kernel, by decide +kernel⟩ rfl rfl gm (F.binds (ps := ["w", "many"]) fun _ _ _ _ _ _ us hl => match us, hl with | [_, _], _ => rfl) fun cdv A outer s0 H E aw hr => ?_
  exact (ss_cons (ss_set (i := 2) nd rfl (Or.inl rfl) (se_lst sa_nil)) (ss_cons (ss_for PassesOwn.never rfl (si_rng1 rfl b_range (sa_cons (se_var (pv 1)) sa_nil)) (sg_name (pg_name (i := 3) nd rfl (Or.inl rfl))) (ss_cons (ss_if (st_eq hr (se_call h__law_next hr (by decide) rfl (sa_cons (se_var (pv 0)) (sa_cons se_int sa_nil))) se_int) (ss_cons (ss_par (ps_par (i := 4) (j := 5) rfl nd rfl rfl (by decide) rfl rfl (sa_cons (se_sub (se_call h__law_next hr (by decide) rfl (sa_cons (se_var (pv 0)) (sa_cons se_int sa_nil))) se_int) (sa_cons (se_sub (se_call h__law_next hr (by decide) rfl (sa_cons (se_var (pv 0)) (sa_cons se_int sa_nil))) se_int) sa_nil)) (by rfl))) (ss_one (ss_set (i := 6) nd rfl (Or.inl rfl) (se_if (st_ne hr (se_tup (sa_cons (se_var (pv 4)) (sa_cons (se_var (pv 5)) sa_nil))) (se_tup (sa_cons se_int (sa_cons se_int sa_nil)))) (se_ix (se_call h_line hr (by decide) rfl (sa_cons (se_tup (sa_cons (se_var (pv 4)) (sa_cons se_int sa_nil))) (sa_cons (se_tup (sa_cons (se_var (pv 5)) (sa_cons se_int sa_nil))) (sa_cons (se_tup (sa_cons (se_sub (se_call h__law_next hr (by decide) rfl (sa_cons (se_var (pv 0)) (sa_cons se_int sa_nil))) se_int) (sa_cons se_int sa_nil))) sa_nil)))) se_int) (se_ix (se_call h_line hr (by decide) rfl (sa_cons (se_tup (sa_cons se_int (sa_cons se_int sa_nil))) (sa_cons (se_tup (sa_cons se_int (sa_cons se_int sa_nil))) (sa_cons (se_tup (sa_cons (se_sub (se_call h__law_next hr (by decide) rfl (sa_cons (se_var (pv 0)) (sa_cons se_int sa_nil))) se_int) (sa_cons se_int sa_nil))) sa_nil)))) se_int))))) (ss_cons (ss_set (i := 7) nd rfl (Or.inl rfl) (se_ix (se_tup (sa_cons (se_tup (sa_cons se_int (sa_cons se_int sa_nil))) (sa_cons (se_tup (sa_cons se_int (sa_cons se_int sa_nil))) (sa_cons (se_tup (sa_cons se_int (sa_cons se_int sa_nil))) (sa_cons (se_tup (sa_cons se_int (sa_cons se_int sa_nil))) (sa_cons (se_tup (sa_cons se_int (sa_cons se_int sa_nil))) sa_nil)))))) (se_call h__law_next hr (by decide) rfl (sa_cons (se_var (pv 0)) (sa_cons se_int sa_nil))))) (ss_one (ss_set (i := 6) nd rfl (Or.inl rfl) (se_call h_circle hr (by decide) rfl (sa_cons (se_ix (se_tup (sa_cons (se_tup (sa_cons se_int (sa_cons se_int sa_nil))) (sa_cons (se_tup (sa_cons se_int (sa_cons se_int sa_nil))) (sa_cons (se_tup (sa_cons (se_neg se_int) (sa_cons se_int sa_nil))) (sa_cons (se_tup (sa_cons se_int (sa_cons se_int sa_nil))) (sa_cons (se_tup (sa_cons se_int (sa_cons se_int sa_nil))) sa_nil)))))) (se_call h__law_next hr (by decide) rfl (sa_cons (se_var (pv 0)) (sa_cons se_int sa_nil)))) (sa_cons (se_ix (se_tup (sa_cons (se_tup (sa_cons se_int (sa_cons se_int sa_nil))) (sa_cons (se_tup (sa_cons se_int (sa_cons se_int sa_nil))) (sa_cons (se_tup (sa_cons (se_neg se_int) (sa_cons se_int sa_nil))) sa_nil)))) (se_call h__law_next hr (by decide) rfl (sa_cons (se_var (pv 0)) (sa_cons se_int sa_nil)))) (sa_cons (se_var (pv 7)) sa_nil)))))))) (ss_one (ss_set (i := 2) nd rfl (Or.inl rfl) (se_catL (se_var (pv 2)) (se_if (st_notIn hr (se_var (pv 6)) (se_var (pv 2))) (se_lst (sa_cons (se_var (pv 6)) sa_nil)) (se_lst sa_nil))))))) (ss_one (ss_ret (se_var (pv 2))))))
theorem okx_circle_through {f : Addr} {fd : FuncData} (F : Fun K "circle_through" "circle_through" s_circle_through f fd) (gm : mg "circle_through" = some (.ref f)) (k_NOTHING : Kst K mg "NOTHING" c_NOTHING) (h_square : Df P w K mg base "square" 1 1 F_square) (h_added : Df P w K mg base "added" 2 3 F_added) (h_minus : Df P w K mg base "minus" 2 3 F_minus) (h_times : Df P w K mg base "times" 2 3 F_times) (h_over : Df P w K mg base "over" 2 3 F_over) (x_circle : DxN P w K mg base C "circle" 3 4 FX_circle) (RA : RaiseAtN P w K mg base "Unfit" C) : DxN P w K mg base C "circle_through" 3 5 FX_circle_through := by
  have nd : (["one", "other", "third", "rows", "x", "y", "s", "u", "v", "t", "p", "q", "w", "a", "b", "c", "d", "e", "f", "low", "m", "n"] : List Str).Nodup := by decide +kernel
  refine dxN_of (N := ["one", "other", "third", "rows", "x", "y", "s", "u", "v", "t", "p", "q", "w", "a", "b", "c", "d", "e", "f", "low", "m", "n"]) (ps := ["one", "other", "third"]) F ⟨rfl, rfl, rfl, nd, rfl, by decide +kernel, by decide +kernel⟩ rfl rfl gm (F.binds (ps := ["one", "other", "third"]) fun _ _ _ _ _ _ us hl => match us, hl with | [_, _, _], _ => rfl) fun cdv A outer s0 H E aw hr tk => ?_
  exact (ssxN_cons (ssxN_of (ss_own (i := 3) (fun _ he => ps_set (i := 3) nd rfl (Or.inl rfl) he) sa_nil)) (ssxN_cons (ssxN_of (ss_for (passes_of rfl) rfl (si_tup (se_tup (sa_cons (se_var (pv 0)) (sa_cons (se_var (pv 1)) (sa_cons (se_var (pv 2)) sa_nil))))) (sg_tup rfl (sgs_cons (sg_name (pg_name (i := 4) nd rfl (Or.inl rfl))) (sgs_cons (sg_name (pg_name (i := 5) nd rfl (Or.inl rfl))) sgs_nil))) (ss_one (ss_app (ps_expr (pe_bm PySem.F.plainAttrs_list PySem.F.slot_list_append PySem.F.type_list_append mt_append (pv 3) (sa_cons (se_tup (sa_cons (se_var (pv 4)) (sa_cons (se_var (pv 5)) (sa_cons (se_call h_added hr (by decide) rfl (sa_cons (se_call h_square hr (by decide) rfl (sa_cons (se_var (pv 4)) sa_nil)) (sa_cons (se_call h_square hr (by decide) rfl (sa_cons (se_var (pv 5)) sa_nil)) sa_nil))) sa_nil)))) sa_nil))))))) (ssxN_freeze (i := 3) (ssxN_cons (ssxN_of (ss_asg (se_var (pv 3)) (sg_lst rfl (sgs_cons (sg_tup rfl (sgs_cons (sg_name (pg_name (i := 4) nd rfl (Or.inl rfl))) (sgs_cons (sg_name (pg_name (i := 5) nd rfl (Or.inl rfl))) (sgs_cons (sg_name (pg_name (i := 6) nd rfl (Or.inl rfl))) sgs_nil)))) (sgs_cons (sg_tup rfl (sgs_cons (sg_name (pg_name (i := 7) nd rfl (Or.inl rfl))) (sgs_cons (sg_name (pg_name (i := 8) nd rfl (Or.inl rfl))) (sgs_cons (sg_name (pg_name (i := 9) nd rfl (Or.inl rfl))) sgs_nil)))) (sgs_cons (sg_tup rfl (sgs_cons (sg_name (pg_name (i := 10) nd rfl (Or.inl rfl))) (sgs_cons (sg_name (pg_name (i := 11) nd rfl (Or.inl rfl))) (sgs_cons (sg_name (pg_name (i := 12) nd rfl (Or.inl rfl))) sgs_nil)))) sgs_nil)))))) (ssxN_cons (ssxN_of (ss_par3 (ps_par3 (i := 13) (j := 14) (l := 15) rfl nd rfl rfl rfl (by decide) (by decide) (by decide) rfl rfl rfl (sa_cons (se_call h_minus hr (by decide) rfl (sa_cons (se_var (pv 7)) (sa_cons (se_var (pv 4)) sa_nil))) (sa_cons (se_call h_minus hr (by decide) rfl (sa_cons (se_var (pv 8)) (sa_cons (se_var (pv 5)) sa_nil))) (sa_cons (se_call h_minus hr (by decide) rfl (sa_cons (se_var (pv 9)) (sa_cons (se_var (pv 6)) sa_nil))) sa_nil))) (by rfl)))) (ssxN_cons (ssxN_of (ss_par3 (ps_par3 (i := 16) (j := 17) (l := 18) rfl nd rfl rfl rfl (by decide) (by decide) (by decide) rfl rfl rfl (sa_cons (se_call h_minus hr (by decide) rfl (sa_cons (se_var (pv 10)) (sa_cons (se_var (pv 4)) sa_nil))) (sa_cons (se_call h_minus hr (by decide) rfl (sa_cons (se_var (pv 11)) (sa_cons (se_var (pv 5)) sa_nil))) (sa_cons (se_call h_minus hr (by decide) rfl (sa_cons (se_var (pv 12)) (sa_cons (se_var (pv 6)) sa_nil))) sa_nil))) (by rfl)))) (ssxN_cons (ssxN_of (ss_set (i := 19) nd rfl (Or.inl rfl) (se_call h_times hr (by decide) rfl (sa_cons (se_tup (sa_cons se_int (sa_cons se_int sa_nil))) (sa_cons (se_call h_minus hr (by decide) rfl (sa_cons (se_call h_times hr (by decide) rfl (sa_cons (se_var (pv 13)) (sa_cons (se_var (pv 17)) sa_nil))) (sa_cons (se_call h_times hr (by decide) rfl (sa_cons (se_var (pv 14)) (sa_cons (se_var (pv 16)) sa_nil))) sa_nil))) sa_nil))))) (ssxN_cons (ssxN_if (st_eq hr (se_var (pv 19)) (se_glob k_NOTHING rfl)) (ssxN_one (ssxN_raise rfl tk RA hr rfl (by decide))) ssxN_nil) (ssxN_cons (ssxN_of (ss_set (i := 20) nd rfl (Or.inl rfl) (se_call h_over hr (by decide) rfl (sa_cons (se_call h_minus hr (by decide) rfl (sa_cons (se_call h_times hr (by decide) rfl (sa_cons (se_var (pv 15)) (sa_cons (se_var (pv 17)) sa_nil))) (sa_cons (se_call h_times hr (by decide) rfl (sa_cons (se_var (pv 14)) (sa_cons (se_var (pv 18)) sa_nil))) sa_nil))) (sa_cons (se_var (pv 19)) sa_nil))))) (ssxN_cons (ssxN_of (ss_set (i := 21) nd rfl (Or.inl rfl) (se_call h_over hr (by decide) rfl (sa_cons (se_call h_minus hr (by decide) rfl (sa_cons (se_call h_times hr (by decide) rfl (sa_cons (se_var (pv 13)) (sa_cons (se_var (pv 18)) sa_nil))) (sa_cons (se_call h_times hr (by decide) rfl (sa_cons (se_var (pv 15)) (sa_cons (se_var (pv 16)) sa_nil))) sa_nil))) (sa_cons (se_var (pv 19)) sa_nil))))) (ssxN_one (ssxN_ret (se_callXN x_circle hr (by decide) tk rfl (sa_cons (se_var (pv 20)) (sa_cons (se_var (pv 21)) (sa_cons (se_call h_added hr (by decide) rfl (sa_cons (se_call h_square hr (by decide) rfl (sa_cons (se_call h_minus hr (by decide) rfl (sa_cons (se_var (pv 4)) (sa_cons (se_var (pv 20)) sa_nil))) sa_nil)) (sa_cons (se_call h_square hr (by decide) rfl (sa_cons (se_call h_minus hr (by decide) rfl (sa_cons (se_var (pv 5)) (sa_cons (se_var (pv 21)) sa_nil))) sa_nil)) sa_nil))) sa_nil))))))))))))))))
theorem ok_turned {f : Addr} {fd : FuncData} (F : Fun K "turned" "turned" s_turned f fd) (gm : mg "turned" = some (.ref f)) : Df P w K mg base "turned" 1 1 F_turned := by
  have nd : (["one"] : List Str).Nodup := by decide +kernel
  refine df_of (N := ["one"]) (ps := ["one"]) F ⟨rfl, rfl, rfl, nd, rfl, by decide +kernel, by decide +kernel⟩ rfl rfl gm (F.binds (ps := ["one"]) fun _ _ _ _ _ _ us hl => match us, hl with | [_], _ => rfl) fun cdv A outer s0 H E aw hr => ?_
  exact (ss_one (ss_ret (se_tup (sa_cons (se_neg (se_ix (se_var (pv 0)) se_int)) (sa_cons (se_ix (se_var (pv 0)) se_int) sa_nil)))))
theorem ok_line_through {f : Addr} {fd : FuncData} (F : Fun K "line_through" "line_through" s_line_through f fd) (gm : mg "line_through" = some (.ref f)) (h_minus : Df P w K mg base "minus" 2 3 F_minus) (h_times : Df P w K mg base "times" 2 3 F_times) (h_added : Df P w K mg base "added" 2 3 F_added) (h_turned : Df P w K mg base "turned" 1 1 F_turned) (h_line : Df P w K mg base "line" 3 4 F_line) : Df P w K mg base "line_through" 2 5 F_line_through := by
  have nd : (["one", "other", "x", "y", "u", "v", "a", "b", "curve", "is_turned"] : List Str).Nodup := by decide +kernel
  refine df_of (N := ["one", "other", "x", "y", "u", "v", "a", "b", "curve", "is_turned"]) (ps := ["one", "other"]) F ⟨rfl, rfl, rfl, nd, rfl, by decide +kernel, by decide +kernel⟩ rfl rfl gm (F.binds (ps := ["one", "other"]) fun _ _ _ _ _ _ us hl => match us, hl with | [_, _], _ => rfl) fun cdv A outer s0 H E aw hr => ?_
  exact (ss_cons (ss_asg (se_tup (sa_cons (se_var (pv 0)) (sa_cons (se_var (pv 1)) sa_nil))) (sg_tup rfl (sgs_cons (sg_tup rfl (sgs_cons (sg_name (pg_name (i := 2) nd rfl (Or.inl rfl))) (sgs_cons (sg_name (pg_name (i := 3) nd rfl (Or.inl rfl))) sgs_nil))) (sgs_cons (sg_tup rfl (sgs_cons (sg_name (pg_name (i := 4) nd rfl (Or.inl rfl))) (sgs_cons (sg_name (pg_name (i := 5) nd rfl (Or.inl rfl))) sgs_nil))) sgs_nil)))) (ss_cons (ss_par (ps_par (i := 6) (j := 7) rfl nd rfl rfl (by decide) rfl rfl (sa_cons (se_call h_minus hr (by decide) rfl (sa_cons (se_var (pv 3)) (sa_cons (se_var (pv 5)) sa_nil))) (sa_cons (se_call h_minus hr (by decide) rfl (sa_cons (se_var (pv 4)) (sa_cons (se_var (pv 2)) sa_nil))) sa_nil)) (by rfl))) (ss_cons (ss_asg (se_call h_line hr (by decide) rfl (sa_cons (se_var (pv 6)) (sa_cons (se_var (pv 7)) (sa_cons (se_call h_turned hr (by decide) rfl (sa_cons (se_call h_added hr (by decide) rfl (sa_cons (se_call h_times hr (by decide) rfl (sa_cons (se_var (pv 6)) (sa_cons (se_var (pv 2)) sa_nil))) (sa_cons (se_call h_times hr (by decide) rfl (sa_cons (se_var (pv 7)) (sa_cons (se_var (pv 3)) sa_nil))) sa_nil))) sa_nil)) sa_nil)))) (sg_tup rfl (sgs_cons (sg_name (pg_name (i := 8) nd rfl (Or.inl rfl))) (sgs_cons (sg_name (pg_name (i := 9) nd rfl (Or.inl rfl))) sgs_nil)))) (ss_one (ss_ret (se_tup (sa_cons (se_var (pv 8)) (sa_cons (se_not (se_var (pv 9))) sa_nil))))))))
theorem ok_half {f : Addr} {fd : FuncData} (F : Fun K "half" "half" s_half f fd) (gm : mg "half" = some (.ref f)) (h_fraction : Df P w K mg base "fraction" 2 2 F_fraction) : Df P w K mg base "half" 1 3 F_half := by
  have nd : (["one"] : List Str).Nodup := by decide +kernel
  refine df_of (N := ["one"]) (ps := ["one"]) F ⟨rfl, rfl, rfl, nd, rfl, by decide +kernel, by decide +kernel⟩ rfl rfl gm (F.binds (ps := ["one"]) fun _ _ _ _ _ _ us hl => match us, hl with | [_], _ => rfl) fun cdv A outer s0 H E aw hr => ?_
  exact (ss_one (ss_ret (se_call h_fraction hr (by decide) rfl (sa_cons (se_ix (se_var (pv 0)) se_int) (sa_cons (se_mul se_int (se_ix (se_var (pv 0)) se_int)) sa_nil)))))
theorem ok_middle_of {f : Addr} {fd : FuncData} (F : Fun K "middle_of" "middle_of" s_middle_of f fd) (gm : mg "middle_of" = some (.ref f)) (h_turned : Df P w K mg base "turned" 1 1 F_turned) (h_half : Df P w K mg base "half" 1 3 F_half) : Df P w K mg base "middle_of" 1 4 F_middle_of := by
  have nd : (["curve"] : List Str).Nodup := by decide +kernel
  refine df_of (N := ["curve"]) (ps := ["curve"]) F ⟨rfl, rfl, rfl, nd, rfl, by decide +kernel, by decide +kernel⟩ rfl rfl gm (F.binds (ps := ["curve"]) fun _ _ _ _ _ _ us hl => match us, hl with | [_], _ => rfl) fun cdv A outer s0 H E aw hr => ?_
  exact (ss_one (ss_ret (se_tup (sa_cons (se_call h_half hr (by decide) rfl (sa_cons (se_call h_turned hr (by decide) rfl (sa_cons (se_ix (se_var (pv 0)) se_int) sa_nil)) sa_nil)) (sa_cons (se_call h_half hr (by decide) rfl (sa_cons (se_call h_turned hr (by decide) rfl (sa_cons (se_ix (se_var (pv 0)) se_int) sa_nil)) sa_nil)) sa_nil)))))
theorem ok__law_plus {f : Addr} {fd : FuncData} (F : Fun K "_law_plus" "_law_plus" s__law_plus f fd) (gm : mg "_law_plus" = some (.ref f)) : Df P w K mg base "_law_plus" 2 1 F__law_plus := by
  have nd : (["one", "other"] : List Str).Nodup := by decide +kernel
  refine df_of (N := ["one", "other"]) (ps := ["one", "other"]) F ⟨rfl, rfl, rfl, nd, rfl, by decide +kernel, by decide +kernel⟩ rfl rfl gm (F.binds (ps := ["one", "other"]) fun _ _ _ _ _ _ us hl => match us, hl with | [_, _], _ => rfl) fun cdv A outer s0 H E aw hr => ?_
  exact (ss_one (ss_ret (se_tup (sa_cons (se_add (se_mul (se_ix (se_var (pv 0)) se_int) (se_ix (se_var (pv 1)) se_int)) (se_mul (se_ix (se_var (pv 1)) se_int) (se_ix (se_var (pv 0)) se_int))) (sa_cons (se_mul (se_ix (se_var (pv 0)) se_int) (se_ix (se_var (pv 1)) se_int)) sa_nil)))))
theorem ok__law_side {f : Addr} {fd : FuncData} (F : Fun K "_law_side" "_law_side" s__law_side f fd) (gm : mg "_law_side" = some (.ref f)) : Df P w K mg base "_law_side" 1 1 F__law_side := by
  have nd : (["one", "number"] : List Str).Nodup := by decide +kernel
  refine df_of (N := ["one", "number"]) (ps := ["one"]) F ⟨rfl, rfl, rfl, nd, rfl, by decide +kernel, by decide +kernel⟩ rfl rfl gm (F.binds (ps := ["one"]) fun _ _ _ _ _ _ us hl => match us, hl with | [_], _ => rfl) fun cdv A outer s0 H E aw hr => ?_
  exact (ss_cons (ss_set (i := 1) nd rfl (Or.inl rfl) (se_mul (se_ix (se_var (pv 0)) se_int) (se_ix (se_var (pv 0)) se_int))) (ss_one (ss_ret (se_sub (se_if (st_gt (se_var (pv 1)) se_int) se_int se_int) (se_if (st_lt (se_var (pv 1)) se_int) se_int se_int)))))
theorem ok__law_by {f : Addr} {fd : FuncData} (F : Fun K "_law_by" "_law_by" s__law_by f fd) (gm : mg "_law_by" = some (.ref f)) : Df P w K mg base "_law_by" 2 1 F__law_by := by
  have nd : (["one", "other"] : List Str).Nodup := by decide +kernel
  refine df_of (N := ["one", "other"]) (ps := ["one", "other"]) F ⟨rfl, rfl, rfl, nd, rfl, by decide +kernel, by decide +kernel⟩ rfl rfl gm (F.binds (ps := ["one", "other"]) fun _ _ _ _ _ _ us hl => match us, hl with | [_, _], _ => rfl) fun cdv A outer s0 H E aw hr => ?_
  exact (ss_one (ss_ret (se_tup (sa_cons (se_mul (se_ix (se_var (pv 0)) se_int) (se_ix (se_var (pv 1)) se_int)) (sa_cons (se_mul (se_ix (se_var (pv 0)) se_int) (se_ix (se_var (pv 1)) se_int)) sa_nil)))))
theorem ok__law_rooted {f : Addr} {fd : FuncData} (F : Fun K "_law_rooted" "_law_rooted" s__law_rooted f fd) (gm : mg "_law_rooted" = some (.ref f)) (h__law_side : Df P w K mg base "_law_side" 1 1 F__law_side) (h__law_by : Df P w K mg base "_law_by" 2 1 F__law_by) (h__law_plus : Df P w K mg base "_law_plus" 2 1 F__law_plus) : Df P w K mg base "_law_rooted" 3 2 F__law_rooted := by
  have nd : (["p", "q", "c", "first", "second", "gap"] : List Str).Nodup := by decide +kernel
  refine df_of (N := ["p", "q", "c", "first", "second", "gap"]) (ps := ["p", "q", "c"]) F ⟨rfl, rfl, rfl, nd, rfl, by decide +kernel, by decide +kernel⟩ rfl rfl gm (F.binds (ps := ["p", "q", "c"]) fun _ _ _ _ _ _ us hl => match us, hl with | [_, _, _], _ => rfl) fun cdv A outer s0 H E aw hr => ?_
  exact (ss_cons (ss_par (ps_par (i := 3) (j := 4) rfl nd rfl rfl (by decide) rfl rfl (sa_cons (se_call h__law_side hr (by decide) rfl (sa_cons (se_var (pv 0)) sa_nil)) (sa_cons (se_if (st_ne hr (se_ix (se_var (pv 2)) se_int) se_int) (se_call h__law_side hr (by decide) rfl (sa_cons (se_var (pv 1)) sa_nil)) se_int) sa_nil)) (by rfl))) (ss_cons (ss_if (st_w (sw_or (st_eq hr (se_var (pv 3)) (se_var (pv 4))) (sw_or1 (st_eq hr (se_var (pv 4)) se_int)))) (ss_one (ss_ret (se_var (pv 3)))) ss_nil) (ss_cons (ss_if (st_eq hr (se_var (pv 3)) se_int) (ss_one (ss_ret (se_var (pv 4)))) ss_nil) (ss_cons (ss_set (i := 5) nd rfl (Or.inl rfl) (se_call h__law_plus hr (by decide) rfl (sa_cons (se_call h__law_by hr (by decide) rfl (sa_cons (se_var (pv 0)) (sa_cons (se_var (pv 0)) sa_nil))) (sa_cons (se_call h__law_by hr (by decide) rfl (sa_cons (se_tup (sa_cons (se_neg se_int) (sa_cons se_int sa_nil))) (sa_cons (se_call h__law_by hr (by decide) rfl (sa_cons (se_call h__law_by hr (by decide) rfl (sa_cons (se_var (pv 1)) (sa_cons (se_var (pv 1)) sa_nil))) (sa_cons (se_var (pv 2)) sa_nil))) sa_nil))) sa_nil)))) (ss_one (ss_ret (se_mul (se_var (pv 3)) (se_call h__law_side hr (by decide) rfl (sa_cons (se_var (pv 5)) sa_nil)))))))))
theorem ok__law_sign {f : Addr} {fd : FuncData} (F : Fun K "_law_sign" "_law_sign" s__law_sign f fd) (gm : mg "_law_sign" = some (.ref f)) (h__law_by : Df P w K mg base "_law_by" 2 1 F__law_by) (h__law_plus : Df P w K mg base "_law_plus" 2 1 F__law_plus) (h__law_rooted : Df P w K mg base "_law_rooted" 3 2 F__law_rooted) : Df P w K mg base "_law_sign" 2 3 F__law_sign := by
  have nd : (["curve", "point", "k", "a", "b", "c", "x", "u", "s", "y", "v", "t", "r", "base", "part", "squares", "roots"] : List Str).Nodup := by decide +kernel
  refine df_of (N := ["curve", "point", "k", "a", "b", "c", "x", "u", "s", "y", "v", "t", "r", "base", "part", "squares", "roots"]) (ps := ["curve", "point"]) F ⟨rfl, rfl, rfl, nd, rfl, by decide +kernel, by decide +kernel⟩ rfl rfl gm (F.binds (ps := ["curve", "point"]) fun _ _ _ _ _ _ us hl => match us, hl with | [_, _], _ => rfl) fun cdv A outer s0 H E aw hr => ?_
  exact (ss_cons (ss_asg (se_var (pv 0)) (sg_tup rfl (sgs_cons (sg_name (pg_name (i := 2) nd rfl (Or.inl rfl))) (sgs_cons (sg_name (pg_name (i := 3) nd rfl (Or.inl rfl))) (sgs_cons (sg_name (pg_name (i := 4) nd rfl (Or.inl rfl))) (sgs_cons (sg_name (pg_name (i := 5) nd rfl (Or.inl rfl))) sgs_nil)))))) (ss_cons (ss_asg (se_var (pv 1)) (sg_tup rfl (sgs_cons (sg_tup rfl (sgs_cons (sg_name (pg_name (i := 6) nd rfl (Or.inl rfl))) (sgs_cons (sg_name (pg_name (i := 7) nd rfl (Or.inl rfl))) (sgs_cons (sg_name (pg_name (i := 8) nd rfl (Or.inl rfl))) sgs_nil)))) (sgs_cons (sg_tup rfl (sgs_cons (sg_name (pg_name (i := 9) nd rfl (Or.inl rfl))) (sgs_cons (sg_name (pg_name (i := 10) nd rfl (Or.inl rfl))) (sgs_cons (sg_name (pg_name (i := 11) nd rfl (Or.inl rfl))) sgs_nil)))) sgs_nil)))) (ss_cons (ss_set (i := 12) nd rfl (Or.inl rfl) (se_if (st_ne hr (se_ix (se_var (pv 8)) se_int) se_int) (se_var (pv 8)) (se_var (pv 11)))) (ss_cons (ss_set (i := 13) nd rfl (Or.inl rfl) (se_call h__law_plus hr (by decide) rfl (sa_cons (se_call h__law_by hr (by decide) rfl (sa_cons (se_var (pv 3)) (sa_cons (se_var (pv 6)) sa_nil))) (sa_cons (se_call h__law_plus hr (by decide) rfl (sa_cons (se_call h__law_by hr (by decide) rfl (sa_cons (se_var (pv 4)) (sa_cons (se_var (pv 9)) sa_nil))) (sa_cons (se_var (pv 5)) sa_nil))) sa_nil)))) (ss_cons (ss_set (i := 14) nd rfl (Or.inl rfl) (se_call h__law_plus hr (by decide) rfl (sa_cons (se_call h__law_by hr (by decide) rfl (sa_cons (se_var (pv 3)) (sa_cons (se_var (pv 7)) sa_nil))) (sa_cons (se_call h__law_by hr (by decide) rfl (sa_cons (se_var (pv 4)) (sa_cons (se_var (pv 10)) sa_nil))) sa_nil)))) (ss_cons (ss_if (st_eq hr (se_var (pv 2)) se_int) (ss_cons (ss_set (i := 15) nd rfl (Or.inl rfl) (se_call h__law_plus hr (by decide) rfl (sa_cons (se_call h__law_by hr (by decide) rfl (sa_cons (se_var (pv 6)) (sa_cons (se_var (pv 6)) sa_nil))) (sa_cons (se_call h__law_by hr (by decide) rfl (sa_cons (se_var (pv 9)) (sa_cons (se_var (pv 9)) sa_nil))) sa_nil)))) (ss_cons (ss_set (i := 16) nd rfl (Or.inl rfl) (se_call h__law_by hr (by decide) rfl (sa_cons (se_call h__law_plus hr (by decide) rfl (sa_cons (se_call h__law_by hr (by decide) rfl (sa_cons (se_var (pv 7)) (sa_cons (se_var (pv 7)) sa_nil))) (sa_cons (se_call h__law_by hr (by decide) rfl (sa_cons (se_var (pv 10)) (sa_cons (se_var (pv 10)) sa_nil))) sa_nil))) (sa_cons (se_var (pv 12)) sa_nil)))) (ss_cons (ss_set (i := 13) nd rfl (Or.inl rfl) (se_call h__law_plus hr (by decide) rfl (sa_cons (se_var (pv 13)) (sa_cons (se_call h__law_plus hr (by decide) rfl (sa_cons (se_var (pv 15)) (sa_cons (se_var (pv 16)) sa_nil))) sa_nil)))) (ss_one (ss_set (i := 14) nd rfl (Or.inl rfl) (se_call h__law_plus hr (by decide) rfl (sa_cons (se_var (pv 14)) (sa_cons (se_call h__law_by hr (by decide) rfl (sa_cons (se_tup (sa_cons se_int (sa_cons se_int sa_nil))) (sa_cons (se_call h__law_plus hr (by decide) rfl (sa_cons (se_call h__law_by hr (by decide) rfl (sa_cons (se_var (pv 6)) (sa_cons (se_var (pv 7)) sa_nil))) (sa_cons (se_call h__law_by hr (by decide) rfl (sa_cons (se_var (pv 9)) (sa_cons (se_var (pv 10)) sa_nil))) sa_nil))) sa_nil))) sa_nil)))))))) ss_nil) (ss_one (ss_ret (se_call h__law_rooted hr (by decide) rfl (sa_cons (se_var (pv 13)) (sa_cons (se_var (pv 14)) (sa_cons (se_var (pv 12)) sa_nil))))))))))))
theorem ok_radius_of {f : Addr} {fd : FuncData} (F : Fun K "radius_of" "radius_of" s_radius_of f fd) (gm : mg "radius_of" = some (.ref f)) (h_middle_of : Df P w K mg base "middle_of" 1 4 F_middle_of) (h_square : Df P w K mg base "square" 1 1 F_square) (h_added : Df P w K mg base "added" 2 3 F_added) (h_minus : Df P w K mg base "minus" 2 3 F_minus) : Df P w K mg base "radius_of" 1 5 F_radius_of := by
  have nd : (["curve", "x", "y"] : List Str).Nodup := by decide +kernel
  refine df_of (N := ["curve", "x", "y"]) (ps := ["curve"]) F ⟨rfl, rfl, rfl, nd, rfl, by decide +kernel, by decide +kernel⟩ rfl rfl gm (F.binds (ps := ["curve"]) fun _ _ _ _ _ _ us hl => match us, hl with | [_], _ => rfl) fun cdv A outer s0 H E aw hr => ?_
  exact (ss_cons (ss_asg (se_call h_middle_of hr (by decide) rfl (sa_cons (se_var (pv 0)) sa_nil)) (sg_tup rfl (sgs_cons (sg_name (pg_name (i := 1) nd rfl (Or.inl rfl))) (sgs_cons (sg_name (pg_name (i := 2) nd rfl (Or.inl rfl))) sgs_nil)))) (ss_one (ss_ret (se_call h_minus hr (by decide) rfl (sa_cons (se_call h_added hr (by decide) rfl (sa_cons (se_call h_square hr (by decide) rfl (sa_cons (se_var (pv 1)) sa_nil)) (sa_cons (se_call h_square hr (by decide) rfl (sa_cons (se_var (pv 2)) sa_nil)) sa_nil))) (sa_cons (se_ix (se_var (pv 0)) se_int) sa_nil))))))
theorem ok_is_number {f : Addr} {fd : FuncData} (F : Fun K "is_number" "is_number" s_is_number f fd) (gm : mg "is_number" = some (.ref f)) (b_isinstance : mg "isinstance" = none) (b_int : mg "int" = none) (b_bool : mg "bool" = none) : Df P w K mg base "is_number" 1 1 F_is_number := by
  have nd : (["thing"] : List Str).Nodup := by decide +kernel
  refine df_of (N := ["thing"]) (ps := ["thing"]) F ⟨rfl, rfl, rfl, nd, rfl, by decide +kernel, by decide +kernel⟩ rfl rfl gm (F.binds (ps := ["thing"]) fun _ _ _ _ _ _ us hl => match us, hl with | [_], _ => rfl) fun cdv A outer s0 H E aw hr => ?_
  exact (ss_one (ss_ret (se_and (se_isi boot_t_int (by decide) rfl b_int rfl b_isinstance (se_var (pv 0))) (se_one (se_not (se_isi boot_t_bool (by decide) rfl b_bool rfl b_isinstance (se_var (pv 0))))))))
theorem ok_is_fraction {f : Addr} {fd : FuncData} (F : Fun K "is_fraction" "is_fraction" s_is_fraction f fd) (gm : mg "is_fraction" = some (.ref f)) (b_isinstance : mg "isinstance" = none) (b_tuple : mg "tuple" = none) (b_len : mg "len" = none) (h_is_number : Df P w K mg base "is_number" 1 1 F_is_number) (h_common : Df P w K mg base "common" 2 1 F_common) : Df P w K mg base "is_fraction" 1 2 F_is_fraction := by
  have nd : (["thing"] : List Str).Nodup := by decide +kernel
  refine df_of (N := ["thing"]) (ps := ["thing"]) F ⟨rfl, rfl, rfl, nd, rfl, by decide +kernel, by decide +kernel⟩ rfl rfl gm (F.binds (ps := ["thing"]) fun _ _ _ _ _ _ us hl => match us, hl with | [_], _ => rfl) fun cdv A outer s0 H E aw hr => ?_
  exact (ss_cons (ss_if (st_w (sw_or (st_not (st_val (se_isi boot_t_tuple (by decide) rfl b_tuple rfl b_isinstance (se_var (pv 0))))) (sw_or (st_ne hr (se_len rfl b_len (sa_cons (se_var (pv 0)) sa_nil)) se_int) (sw_or (st_not (st_val (se_call h_is_number hr (by decide) rfl (sa_cons (se_ix (se_var (pv 0)) se_int) sa_nil)))) (sw_or1 (st_not (st_val (se_call h_is_number hr (by decide) rfl (sa_cons (se_ix (se_var (pv 0)) se_int) sa_nil))))))))) (ss_one (ss_ret se_bl)) ss_nil) (ss_one (ss_ret (se_and (se_ge (se_ix (se_var (pv 0)) se_int) se_int) (se_one (se_eq hr (se_call h_common hr (by decide) rfl (sa_cons (se_ix (se_var (pv 0)) se_int) (sa_cons (se_ix (se_var (pv 0)) se_int) sa_nil))) se_int))))))
theorem ok_is_curve {f : Addr} {fd : FuncData} (F : Fun K "is_curve" "is_curve" s_is_curve f fd) (gm : mg "is_curve" = some (.ref f)) (k_NOTHING : Kst K mg "NOTHING" c_NOTHING) (b_isinstance : mg "isinstance" = none) (b_tuple : mg "tuple" = none) (b_len : mg "len" = none) (b_all : mg "all" = none) (b_bool : mg "bool" = none) (b_int : mg "int" = none) (h_is_fraction : Df P w K mg base "is_fraction" 1 2 F_is_fraction) (h_radius_of : Df P w K mg base "radius_of" 1 5 F_radius_of) (h_sign : Df P w K mg base "sign" 1 2 F_sign) : Df P w K mg base "is_curve" 1 6 F_is_curve := by
  have nd : (["thing", "one"] : List Str).Nodup := by decide +kernel
  refine df_of (N := ["thing", "one"]) (ps := ["thing"]) F ⟨rfl, rfl, rfl, nd, rfl, by decide +kernel, by decide +kernel⟩ rfl rfl gm (F.binds (ps := ["thing"]) fun _ _ _ _ _ _ us hl => match us, hl with | [_], _ => rfl) fun cdv A outer s0 H E aw hr => ?_
  exact (ss_cons (ss_if (st_w (sw_or (st_not (st_val (se_isi boot_t_tuple (by decide) rfl b_tuple rfl b_isinstance (se_var (pv 0))))) (sw_or (st_ne hr (se_len rfl b_len (sa_cons (se_var (pv 0)) sa_nil)) se_int) (sw_or1 (st_not (st_val (se_allc rfl rfl b_all (sa_cons (se_lc (own := [("one", 1)]) rfl nd (blkOk_by (own := [("one", 1)]) rfl) (si_c (si_tup (se_sl (se_var (pv 0)) (so_some se_int) so_none))) (fun _ _ _ _ _ => (sg_name (pg_name (i := 1) nd rfl (Or.inl rfl)))) (fun _ _ _ _ _ => sts_nil) (fun _ _ _ _ _ => (se_call h_is_fraction hr (by decide) rfl (sa_cons (se_var (pv 1)) sa_nil)))) sa_nil)))))))) (ss_one (ss_ret se_bl)) ss_nil) (ss_cons (ss_if (st_w (sw_or (st_val (se_isi boot_t_bool (by decide) rfl b_bool rfl b_isinstance (se_ix (se_var (pv 0)) se_int))) (sw_or (st_notInT (se_ix (se_var (pv 0)) se_int) (se_tup (sa_cons se_int (sa_cons se_int sa_nil)))) (sw_or1 (st_not (st_val (se_isi boot_t_int (by decide) rfl b_int rfl b_isinstance (se_ix (se_var (pv 0)) se_int)))))))) (ss_one (ss_ret se_bl)) ss_nil) (ss_cons (ss_if (st_eq hr (se_ix (se_var (pv 0)) se_int) se_int) (ss_one (ss_ret (se_gt (se_call h_sign hr (by decide) rfl (sa_cons (se_call h_radius_of hr (by decide) rfl (sa_cons (se_var (pv 0)) sa_nil)) sa_nil)) se_int))) ss_nil) (ss_one (ss_ret (se_or (se_eq hr (se_ix (se_var (pv 0)) se_int) (se_tup (sa_cons se_int (sa_cons se_int sa_nil)))) (se_one (se_and (se_eq hr (se_ix (se_var (pv 0)) se_int) (se_glob k_NOTHING rfl)) (se_one (se_eq hr (se_ix (se_var (pv 0)) se_int) (se_tup (sa_cons se_int (sa_cons se_int sa_nil)))))))))))))
theorem ok_plain {f : Addr} {fd : FuncData} (F : Fun K "plain" "plain" s_plain f fd) (gm : mg "plain" = some (.ref f)) (k_NOTHING : Kst K mg "NOTHING" c_NOTHING) : Df P w K mg base "plain" 1 1 F_plain := by
  have nd : (["a"] : List Str).Nodup := by decide +kernel
  refine df_of (N := ["a"]) (ps := ["a"]) F ⟨rfl, rfl, rfl, nd, rfl, by decide +kernel, by decide +kernel⟩ rfl rfl gm (F.binds (ps := ["a"]) fun _ _ _ _ _ _ us hl => match us, hl with | [_], _ => rfl) fun cdv A outer s0 H E aw hr => ?_
  exact (ss_one (ss_ret (se_tup (sa_cons (se_var (pv 0)) (sa_cons (se_glob k_NOTHING rfl) (sa_cons (se_glob k_NOTHING rfl) sa_nil))))))
theorem ok_point_of {f : Addr} {fd : FuncData} (F : Fun K "point_of" "point_of" s_point_of f fd) (gm : mg "point_of" = some (.ref f)) (h_plain : Df P w K mg base "plain" 1 1 F_plain) : Df P w K mg base "point_of" 2 2 F_point_of := by
  have nd : (["x", "y"] : List Str).Nodup := by decide +kernel
  refine df_of (N := ["x", "y"]) (ps := ["x", "y"]) F ⟨rfl, rfl, rfl, nd, rfl, by decide +kernel, by decide +kernel⟩ rfl rfl gm (F.binds (ps := ["x", "y"]) fun _ _ _ _ _ _ us hl => match us, hl with | [_, _], _ => rfl) fun cdv A outer s0 H E aw hr => ?_
  exact (ss_one (ss_ret (se_tup (sa_cons (se_call h_plain hr (by decide) rfl (sa_cons (se_var (pv 0)) sa_nil)) (sa_cons (se_call h_plain hr (by decide) rfl (sa_cons (se_var (pv 1)) sa_nil)) sa_nil)))))
theorem ok_whole_root {f : Addr} {fd : FuncData} (F : Fun K "whole_root" "whole_root" s_whole_root f fd) (gm : mg "whole_root" = some (.ref f)) : Df P w K mg base "whole_root" 1 1 F_whole_root := by
  have nd : (["number", "low", "high", "middle"] : List Str).Nodup := by decide +kernel
  refine df_of (N := ["number", "low", "high", "middle"]) (ps := ["number"]) F ⟨rfl, rfl, rfl, nd, rfl, by decide +kernel, by decide +kernel⟩ rfl rfl gm (F.binds (ps := ["number"]) fun _ _ _ _ _ _ us hl => match us, hl with | [_], _ => rfl) fun cdv A outer s0 H E aw hr => ?_
  exact (ss_cons (ss_par (ps_par (i := 1) (j := 2) rfl nd rfl rfl (by decide) rfl rfl (sa_cons se_int (sa_cons (se_add (se_var (pv 0)) se_int) sa_nil)) (by rfl))) (ss_cons (ss_while PassesOwn.never (st_gt (se_sub (se_var (pv 2)) (se_var (pv 1))) se_int) (ss_cons (ss_set (i := 3) nd rfl (Or.inl rfl) (se_div (se_add (se_var (pv 1)) (se_var (pv 2))) se_int)) (ss_one (ss_if (st_le (se_mul (se_var (pv 3)) (se_var (pv 3))) (se_var (pv 0))) (ss_one (ss_set (i := 1) nd rfl (Or.inl rfl) (se_var (pv 3)))) (ss_one (ss_set (i := 2) nd rfl (Or.inl rfl) (se_var (pv 3)))))))) (ss_one (ss_ret (se_if (st_eq hr (se_mul (se_var (pv 1)) (se_var (pv 1))) (se_var (pv 0))) (se_var (pv 1)) se_non)))))
theorem ok_tidy {f : Addr} {fd : FuncData} (F : Fun K "tidy" "tidy" s_tidy f fd) (gm : mg "tidy" = some (.ref f)) (k_NOTHING : Kst K mg "NOTHING" c_NOTHING) (h_plain : Df P w K mg base "plain" 1 1 F_plain) (h_whole_root : Df P w K mg base "whole_root" 1 1 F_whole_root) (h_times : Df P w K mg base "times" 2 3 F_times) (h_added : Df P w K mg base "added" 2 3 F_added) : Df P w K mg base "tidy" 3 4 F_tidy := by
  have nd : (["a", "b", "c", "upper", "lower"] : List Str).Nodup := by decide +kernel
  refine df_of (N := ["a", "b", "c", "upper", "lower"]) (ps := ["a", "b", "c"]) F ⟨rfl, rfl, rfl, nd, rfl, by decide +kernel, by decide +kernel⟩ rfl rfl gm (F.binds (ps := ["a", "b", "c"]) fun _ _ _ _ _ _ us hl => match us, hl with | [_, _, _], _ => rfl) fun cdv A outer s0 H E aw hr => ?_
  exact (ss_cons (ss_if (st_w (sw_or (st_eq hr (se_var (pv 1)) (se_glob k_NOTHING rfl)) (sw_or1 (st_eq hr (se_var (pv 2)) (se_glob k_NOTHING rfl))))) (ss_one (ss_ret (se_call h_plain hr (by decide) rfl (sa_cons (se_var (pv 0)) sa_nil)))) ss_nil) (ss_cons (ss_par (ps_par (i := 3) (j := 4) rfl nd rfl rfl (by decide) rfl rfl (sa_cons (se_call h_whole_root hr (by decide) rfl (sa_cons (se_ix (se_var (pv 2)) se_int) sa_nil)) (sa_cons (se_call h_whole_root hr (by decide) rfl (sa_cons (se_ix (se_var (pv 2)) se_int) sa_nil)) sa_nil)) (by rfl))) (ss_cons (ss_if (st_w (sw_and (st_notN (se_var (pv 3)) se_non) (sw_and1 (st_notN (se_var (pv 4)) se_non)))) (ss_one (ss_ret (se_call h_plain hr (by decide) rfl (sa_cons (se_call h_added hr (by decide) rfl (sa_cons (se_var (pv 0)) (sa_cons (se_call h_times hr (by decide) rfl (sa_cons (se_var (pv 1)) (sa_cons (se_tup (sa_cons (se_var (pv 3)) (sa_cons (se_var (pv 4)) sa_nil))) sa_nil))) sa_nil))) sa_nil)))) ss_nil) (ss_one (ss_ret (se_tup (sa_cons (se_var (pv 0)) (sa_cons (se_var (pv 1)) (sa_cons (se_var (pv 2)) sa_nil)))))))))
theorem ok_turns_of {f : Addr} {fd : FuncData} (F : Fun K "turns_of" "turns_of" s_turns_of f fd) (gm : mg "turns_of" = some (.ref f)) (h_middle_of : Df P w K mg base "middle_of" 1 4 F_middle_of) (h_radius_of : Df P w K mg base "radius_of" 1 5 F_radius_of) (h_tidy : Df P w K mg base "tidy" 3 4 F_tidy) (h_plain : Df P w K mg base "plain" 1 1 F_plain) : Df P w K mg base "turns_of" 1 6 F_turns_of := by
  have nd : (["curve", "x", "y", "part"] : List Str).Nodup := by decide +kernel
  refine df_of (N := ["curve", "x", "y", "part"]) (ps := ["curve"]) F ⟨rfl, rfl, rfl, nd, rfl, by decide +kernel, by decide +kernel⟩ rfl rfl gm (F.binds (ps := ["curve"]) fun _ _ _ _ _ _ us hl => match us, hl with | [_], _ => rfl) fun cdv A outer s0 H E aw hr => ?_
  exact (ss_cons (ss_if (st_eq hr (se_ix (se_var (pv 0)) se_int) se_int) (ss_one (ss_ret (se_lst sa_nil))) ss_nil) (ss_cons (ss_asg (se_call h_middle_of hr (by decide) rfl (sa_cons (se_var (pv 0)) sa_nil)) (sg_tup rfl (sgs_cons (sg_name (pg_name (i := 1) nd rfl (Or.inl rfl))) (sgs_cons (sg_name (pg_name (i := 2) nd rfl (Or.inl rfl))) sgs_nil)))) (ss_cons (ss_set (i := 3) nd rfl (Or.inl rfl) (se_call h_radius_of hr (by decide) rfl (sa_cons (se_var (pv 0)) sa_nil))) (ss_one (ss_ret (se_lst (sa_cons (se_tup (sa_cons (se_call h_tidy hr (by decide) rfl (sa_cons (se_var (pv 1)) (sa_cons (se_tup (sa_cons (se_neg se_int) (sa_cons se_int sa_nil))) (sa_cons (se_var (pv 3)) sa_nil)))) (sa_cons (se_call h_plain hr (by decide) rfl (sa_cons (se_var (pv 2)) sa_nil)) sa_nil))) (sa_cons (se_tup (sa_cons (se_call h_tidy hr (by decide) rfl (sa_cons (se_var (pv 1)) (sa_cons (se_tup (sa_cons se_int (sa_cons se_int sa_nil))) (sa_cons (se_var (pv 3)) sa_nil)))) (sa_cons (se_call h_plain hr (by decide) rfl (sa_cons (se_var (pv 2)) sa_nil)) sa_nil))) sa_nil))))))))
theorem ok_sign_of_root {f : Addr} {fd : FuncData} (F : Fun K "sign_of_root" "sign_of_root" s_sign_of_root f fd) (gm : mg "sign_of_root" = some (.ref f)) (k_NOTHING : Kst K mg "NOTHING" c_NOTHING) (h_sign : Df P w K mg base "sign" 1 2 F_sign) (h_square : Df P w K mg base "square" 1 1 F_square) (h_times : Df P w K mg base "times" 2 3 F_times) (h_minus : Df P w K mg base "minus" 2 3 F_minus) : Df P w K mg base "sign_of_root" 1 4 F_sign_of_root := by
  have nd : (["one", "a", "b", "c", "first", "second", "gap"] : List Str).Nodup := by decide +kernel
  refine df_of (N := ["one", "a", "b", "c", "first", "second", "gap"]) (ps := ["one"]) F ⟨rfl, rfl, rfl, nd, rfl, by decide +kernel, by decide +kernel⟩ rfl rfl gm (F.binds (ps := ["one"]) fun _ _ _ _ _ _ us hl => match us, hl with | [_], _ => rfl) fun cdv A outer s0 H E aw hr => ?_
  exact (ss_cons (ss_asg (se_var (pv 0)) (sg_tup rfl (sgs_cons (sg_name (pg_name (i := 1) nd rfl (Or.inl rfl))) (sgs_cons (sg_name (pg_name (i := 2) nd rfl (Or.inl rfl))) (sgs_cons (sg_name (pg_name (i := 3) nd rfl (Or.inl rfl))) sgs_nil))))) (ss_cons (ss_par (ps_par (i := 4) (j := 5) rfl nd rfl rfl (by decide) rfl rfl (sa_cons (se_call h_sign hr (by decide) rfl (sa_cons (se_var (pv 1)) sa_nil)) (sa_cons (se_if (st_ne hr (se_var (pv 3)) (se_glob k_NOTHING rfl)) (se_call h_sign hr (by decide) rfl (sa_cons (se_var (pv 2)) sa_nil)) se_int) sa_nil)) (by rfl))) (ss_cons (ss_if (st_w (sw_or (st_eq hr (se_var (pv 4)) (se_var (pv 5))) (sw_or1 (st_eq hr (se_var (pv 5)) se_int)))) (ss_one (ss_ret (se_var (pv 4)))) ss_nil) (ss_cons (ss_if (st_eq hr (se_var (pv 4)) se_int) (ss_one (ss_ret (se_var (pv 5)))) ss_nil) (ss_cons (ss_set (i := 6) nd rfl (Or.inl rfl) (se_call h_sign hr (by decide) rfl (sa_cons (se_call h_minus hr (by decide) rfl (sa_cons (se_call h_square hr (by decide) rfl (sa_cons (se_var (pv 1)) sa_nil)) (sa_cons (se_call h_times hr (by decide) rfl (sa_cons (se_call h_square hr (by decide) rfl (sa_cons (se_var (pv 2)) sa_nil)) (sa_cons (se_var (pv 3)) sa_nil))) sa_nil))) sa_nil))) (ss_one (ss_ret (se_if (st_ne hr (se_var (pv 6)) se_int) (se_mul (se_var (pv 4)) (se_var (pv 6))) se_int))))))))
theorem ok_added_root {f : Addr} {fd : FuncData} (F : Fun K "added_root" "added_root" s_added_root f fd) (gm : mg "added_root" = some (.ref f)) (k_NOTHING : Kst K mg "NOTHING" c_NOTHING) (h_added : Df P w K mg base "added" 2 3 F_added) (h_tidy : Df P w K mg base "tidy" 3 4 F_tidy) : Df P w K mg base "added_root" 2 5 F_added_root := by
  have nd : (["one", "other", "c"] : List Str).Nodup := by decide +kernel
  refine df_of (N := ["one", "other", "c"]) (ps := ["one", "other"]) F ⟨rfl, rfl, rfl, nd, rfl, by decide +kernel, by decide +kernel⟩ rfl rfl gm (F.binds (ps := ["one", "other"]) fun _ _ _ _ _ _ us hl => match us, hl with | [_, _], _ => rfl) fun cdv A outer s0 H E aw hr => ?_
  exact (ss_cons (ss_set (i := 2) nd rfl (Or.inl rfl) (se_if (st_ne hr (se_ix (se_var (pv 0)) se_int) (se_glob k_NOTHING rfl)) (se_ix (se_var (pv 0)) se_int) (se_ix (se_var (pv 1)) se_int))) (ss_one (ss_ret (se_call h_tidy hr (by decide) rfl (sa_cons (se_call h_added hr (by decide) rfl (sa_cons (se_ix (se_var (pv 0)) se_int) (sa_cons (se_ix (se_var (pv 1)) se_int) sa_nil))) (sa_cons (se_call h_added hr (by decide) rfl (sa_cons (se_ix (se_var (pv 0)) se_int) (sa_cons (se_ix (se_var (pv 1)) se_int) sa_nil))) (sa_cons (se_var (pv 2)) sa_nil)))))))
theorem ok_by_fraction {f : Addr} {fd : FuncData} (F : Fun K "by_fraction" "by_fraction" s_by_fraction f fd) (gm : mg "by_fraction" = some (.ref f)) (h_times : Df P w K mg base "times" 2 3 F_times) (h_tidy : Df P w K mg base "tidy" 3 4 F_tidy) : Df P w K mg base "by_fraction" 2 5 F_by_fraction := by
  have nd : (["one", "part"] : List Str).Nodup := by decide +kernel
  refine df_of (N := ["one", "part"]) (ps := ["one", "part"]) F ⟨rfl, rfl, rfl, nd, rfl, by decide +kernel, by decide +kernel⟩ rfl rfl gm (F.binds (ps := ["one", "part"]) fun _ _ _ _ _ _ us hl => match us, hl with | [_, _], _ => rfl) fun cdv A outer s0 H E aw hr => ?_
  exact (ss_one (ss_ret (se_call h_tidy hr (by decide) rfl (sa_cons (se_call h_times hr (by decide) rfl (sa_cons (se_ix (se_var (pv 0)) se_int) (sa_cons (se_var (pv 1)) sa_nil))) (sa_cons (se_call h_times hr (by decide) rfl (sa_cons (se_ix (se_var (pv 0)) se_int) (sa_cons (se_var (pv 1)) sa_nil))) (sa_cons (se_ix (se_var (pv 0)) se_int) sa_nil))))))
theorem ok_times_root {f : Addr} {fd : FuncData} (F : Fun K "times_root" "times_root" s_times_root f fd) (gm : mg "times_root" = some (.ref f)) (k_NOTHING : Kst K mg "NOTHING" c_NOTHING) (h_times : Df P w K mg base "times" 2 3 F_times) (h_added : Df P w K mg base "added" 2 3 F_added) (h_tidy : Df P w K mg base "tidy" 3 4 F_tidy) : Df P w K mg base "times_root" 2 5 F_times_root := by
  have nd : (["one", "other", "c", "a"] : List Str).Nodup := by decide +kernel
  refine df_of (N := ["one", "other", "c", "a"]) (ps := ["one", "other"]) F ⟨rfl, rfl, rfl, nd, rfl, by decide +kernel, by decide +kernel⟩ rfl rfl gm (F.binds (ps := ["one", "other"]) fun _ _ _ _ _ _ us hl => match us, hl with | [_, _], _ => rfl) fun cdv A outer s0 H E aw hr => ?_
  exact (ss_cons (ss_set (i := 2) nd rfl (Or.inl rfl) (se_if (st_ne hr (se_ix (se_var (pv 0)) se_int) (se_glob k_NOTHING rfl)) (se_ix (se_var (pv 0)) se_int) (se_ix (se_var (pv 1)) se_int))) (ss_cons (ss_set (i := 3) nd rfl (Or.inl rfl) (se_call h_added hr (by decide) rfl (sa_cons (se_call h_times hr (by decide) rfl (sa_cons (se_ix (se_var (pv 0)) se_int) (sa_cons (se_ix (se_var (pv 1)) se_int) sa_nil))) (sa_cons (se_call h_times hr (by decide) rfl (sa_cons (se_call h_times hr (by decide) rfl (sa_cons (se_ix (se_var (pv 0)) se_int) (sa_cons (se_ix (se_var (pv 1)) se_int) sa_nil))) (sa_cons (se_var (pv 2)) sa_nil))) sa_nil)))) (ss_one (ss_ret (se_call h_tidy hr (by decide) rfl (sa_cons (se_var (pv 3)) (sa_cons (se_call h_added hr (by decide) rfl (sa_cons (se_call h_times hr (by decide) rfl (sa_cons (se_ix (se_var (pv 0)) se_int) (sa_cons (se_ix (se_var (pv 1)) se_int) sa_nil))) (sa_cons (se_call h_times hr (by decide) rfl (sa_cons (se_ix (se_var (pv 0)) se_int) (sa_cons (se_ix (se_var (pv 1)) se_int) sa_nil))) sa_nil))) (sa_cons (se_var (pv 2)) sa_nil))))))))
theorem ok_value_at {f : Addr} {fd : FuncData} (F : Fun K "value_at" "value_at" s_value_at f fd) (gm : mg "value_at" = some (.ref f)) (h_by_fraction : Df P w K mg base "by_fraction" 2 5 F_by_fraction) (h_added_root : Df P w K mg base "added_root" 2 5 F_added_root) (h_plain : Df P w K mg base "plain" 1 1 F_plain) (h_times_root : Df P w K mg base "times_root" 2 5 F_times_root) : Df P w K mg base "value_at" 2 6 F_value_at := by
  have nd : (["curve", "point", "x", "y", "found"] : List Str).Nodup := by decide +kernel
  refine df_of (N := ["curve", "point", "x", "y", "found"]) (ps := ["curve", "point"]) F ⟨rfl, rfl, rfl, nd, rfl, by decide +kernel, by decide +kernel⟩ rfl rfl gm (F.binds (ps := ["curve", "point"]) fun _ _ _ _ _ _ us hl => match us, hl with | [_, _], _ => rfl) fun cdv A outer s0 H E aw hr => ?_
  exact (ss_cons (ss_asg (se_var (pv 1)) (sg_tup rfl (sgs_cons (sg_name (pg_name (i := 2) nd rfl (Or.inl rfl))) (sgs_cons (sg_name (pg_name (i := 3) nd rfl (Or.inl rfl))) sgs_nil)))) (ss_cons (ss_set (i := 4) nd rfl (Or.inl rfl) (se_call h_added_root hr (by decide) rfl (sa_cons (se_call h_by_fraction hr (by decide) rfl (sa_cons (se_var (pv 2)) (sa_cons (se_ix (se_var (pv 0)) se_int) sa_nil))) (sa_cons (se_call h_by_fraction hr (by decide) rfl (sa_cons (se_var (pv 3)) (sa_cons (se_ix (se_var (pv 0)) se_int) sa_nil))) sa_nil)))) (ss_cons (ss_set (i := 4) nd rfl (Or.inl rfl) (se_call h_added_root hr (by decide) rfl (sa_cons (se_var (pv 4)) (sa_cons (se_call h_plain hr (by decide) rfl (sa_cons (se_ix (se_var (pv 0)) se_int) sa_nil)) sa_nil)))) (ss_cons (ss_if (st_eq hr (se_ix (se_var (pv 0)) se_int) se_int) (ss_one (ss_set (i := 4) nd rfl (Or.inl rfl) (se_call h_added_root hr (by decide) rfl (sa_cons (se_var (pv 4)) (sa_cons (se_call h_added_root hr (by decide) rfl (sa_cons (se_call h_times_root hr (by decide) rfl (sa_cons (se_var (pv 2)) (sa_cons (se_var (pv 2)) sa_nil))) (sa_cons (se_call h_times_root hr (by decide) rfl (sa_cons (se_var (pv 3)) (sa_cons (se_var (pv 3)) sa_nil))) sa_nil))) sa_nil))))) ss_nil) (ss_one (ss_ret (se_var (pv 4))))))))
theorem ok_sign_at {f : Addr} {fd : FuncData} (F : Fun K "sign_at" "sign_at" s_sign_at f fd) (gm : mg "sign_at" = some (.ref f)) (h_value_at : Df P w K mg base "value_at" 2 6 F_value_at) (h_sign_of_root : Df P w K mg base "sign_of_root" 1 4 F_sign_of_root) : Df P w K mg base "sign_at" 2 7 F_sign_at := by
  have nd : (["curve", "point"] : List Str).Nodup := by decide +kernel
  refine df_of (N := ["curve", "point"]) (ps := ["curve", "point"]) F ⟨rfl, rfl, rfl, nd, rfl, by decide +kernel, by decide +kernel⟩ rfl rfl gm (F.binds (ps := ["curve", "point"]) fun _ _ _ _ _ _ us hl => match us, hl with | [_, _], _ => rfl) fun cdv A outer s0 H E aw hr => ?_
  exact (ss_one (ss_ret (se_call h_sign_of_root hr (by decide) rfl (sa_cons (se_call h_value_at hr (by decide) rfl (sa_cons (se_var (pv 0)) (sa_cons (se_var (pv 1)) sa_nil))) sa_nil))))
theorem ok__law_made {f : Addr} {fd : FuncData} (F : Fun K "_law_made" "_law_made" s__law_made f fd) (gm : mg "_law_made" = some (.ref f)) (b_len : mg "len" = none) (b_range : mg "range" = none) (h_is_curve : Df P w K mg base "is_curve" 1 6 F_is_curve) (h_turns_of : Df P w K mg base "turns_of" 1 6 F_turns_of) (h__law_sign : Df P w K mg base "_law_sign" 2 3 F__law_sign) (h_middle_of : Df P w K mg base "middle_of" 1 4 F_middle_of) (h_radius_of : Df P w K mg base "radius_of" 1 5 F_radius_of) (h_circle : Df P w K mg base "circle" 3 4 F_circle) (h_point_of : Df P w K mg base "point_of" 2 2 F_point_of) (h_sign_at : Df P w K mg base "sign_at" 2 7 F_sign_at) (h__law_next : Df P w K mg base "_law_next" 2 1 F__law_next) (h_line_through : Df P w K mg base "line_through" 2 5 F_line_through) (x_circle_through : DxN P w K mg base C "circle_through" 3 5 FX_circle_through) (TU : TryU K mg C) : Df P w K mg base "_law_made" 2 8 F__law_made := by
  have nd : (["w", "curves", "curve", "x", "y", "rows", "ring", "error", "u", "v", "p", "q", "straight", "is_greater", "cross", "side", "wrong", "k", "one", "thing", "point"] : List Str).Nodup := by decide +kernel
  refine df_of (N := ["w", "curves", "curve", "x", "y", "rows", "ring", "error", "u", "v", "p", "q", "straight", "is_greater", "cross", "side", "wrong", "k", "one", "thing", "point"]) (ps := ["w", "curves"]) F ⟨rfl, rfl, rfl, nd, rfl, by decide +kernel, by decide +kernel⟩ rfl rfl gm (F.binds (ps := ["w", "curves"]) fun _ _ _ _ _ _ us hl => match us, hl with | [_, _], _ => rfl) fun cdv A outer s0 H E aw hr => ?_
  exact (ss_cons (ss_for PassesOwn.never rfl (si_list (se_var (pv 1))) (sg_name (pg_name (i := 2) nd rfl (Or.inr rfl))) (ss_cons (ss_if (st_w (sw_or (st_notB (se_call h_is_curve hr (by decide) rfl (sa_cons (se_var (pv 2)) sa_nil)) se_bl) (sw_or (st_ne hr (se_len rfl b_len (sa_cons (se_call h_turns_of hr (by decide) rfl (sa_cons (se_var (pv 2)) sa_nil)) sa_nil)) (se_mul se_int (se_ix (se_var (pv 2)) se_int))) (sw_or1 (st_ne hr (se_lc (own := [("point", 20)]) rfl nd (blkOk_by (own := [("point", 20)]) rfl) (si_c (si_list (se_call h_turns_of hr (by decide) rfl (sa_cons (se_var (pv 2)) sa_nil)))) (fun _ _ _ _ _ => (sg_name (pg_name (i := 20) nd rfl (Or.inl rfl)))) (fun _ _ _ _ _ => (sts_one (st_ne hr (se_call h__law_sign hr (by decide) rfl (sa_cons (se_var (pv 2)) (sa_cons (se_var (pv 20)) sa_nil))) se_int))) (fun _ _ _ _ _ => (se_var (pv 20)))) (se_lst sa_nil)))))) (ss_one (ss_ret se_bl)) ss_nil) (ss_one (ss_if (st_eq hr (se_ix (se_var (pv 2)) se_int) se_int) (ss_cons (ss_asg (se_call h_middle_of hr (by decide) rfl (sa_cons (se_var (pv 2)) sa_nil)) (sg_tup rfl (sgs_cons (sg_name (pg_name (i := 3) nd rfl (Or.inl rfl))) (sgs_cons (sg_name (pg_name (i := 4) nd rfl (Or.inl rfl))) sgs_nil)))) (ss_one (ss_if (st_w (sw_or (st_ne hr (se_call h_circle hr (by decide) rfl (sa_cons (se_var (pv 3)) (sa_cons (se_var (pv 4)) (sa_cons (se_call h_radius_of hr (by decide) rfl (sa_cons (se_var (pv 2)) sa_nil)) sa_nil)))) (se_var (pv 2))) (sw_or1 (st_ne hr (se_call h_sign_at hr (by decide) rfl (sa_cons (se_var (pv 2)) (sa_cons (se_call h_point_of hr (by decide) rfl (sa_cons (se_var (pv 3)) (sa_cons (se_var (pv 4)) sa_nil))) sa_nil))) (se_neg se_int))))) (ss_one (ss_ret se_bl)) ss_nil))) ss_nil)))) (ss_cons (ss_lc (own := [("k", 17)]) (i := 5) rfl nd (blkOk_by (own := [("k", 17)]) rfl) rfl rfl (sw_true rfl rfl rfl (by decide +kernel)) (si_c (si_rng1 rfl b_range (sa_cons se_int sa_nil))) (fun _ _ _ _ _ => (sg_name (pg_name (i := 17) nd rfl (Or.inl rfl)))) (fun _ _ _ _ _ => sts_nil) (fun _ _ _ _ _ => (se_tup (sa_cons (se_tup (sa_cons (se_sub (se_call h__law_next hr (by decide) rfl (sa_cons (se_var (pv 0)) (sa_cons se_int sa_nil))) se_int) (sa_cons se_int sa_nil))) (sa_cons (se_tup (sa_cons (se_sub (se_call h__law_next hr (by decide) rfl (sa_cons (se_var (pv 0)) (sa_cons se_int sa_nil))) se_int) (sa_cons se_int sa_nil))) sa_nil))))) (ss_cons (ss_tryH (i := 7) (is1 := [3, 4, 8, 9, 10, 11]) TU rfl rfl nd rfl rfl rfl (fun W pn xe tk => (se_callXN x_circle_through hr (by decide) tk rfl (sa_cons (se_ix (se_var (pv 5)) se_int) (sa_cons (se_ix (se_var (pv 5)) se_int) (sa_cons (se_ix (se_var (pv 5)) se_int) sa_nil))))) (fun pn xe => (sg_name (pg_name (i := 6) nd rfl (Or.inr rfl)))) (fun pn xe po => (ss_one (ss_if (st_ne hr (se_lc (own := [("x", 3), ("y", 4)]) rfl nd (blkOk_by (own := [("x", 3), ("y", 4)]) rfl) (si_c (si_list (se_var (pv 5)))) (fun _ _ _ _ _ => (sg_tup rfl (sgs_cons (sg_name (pg_name (i := 3) nd rfl (Or.inl rfl))) (sgs_cons (sg_name (pg_name (i := 4) nd rfl (Or.inl rfl))) sgs_nil)))) (fun _ _ _ _ _ => (sts_one (st_ne hr (se_call h__law_sign hr (by decide) rfl (sa_cons (se_var (pv 6)) (sa_cons (se_call h_point_of hr (by decide) rfl (sa_cons (se_var (pv 3)) (sa_cons (se_var (pv 4)) sa_nil))) sa_nil))) se_int))) (fun _ _ _ _ _ => (se_var (pv 3)))) (se_lst sa_nil)) (ss_one (ss_ret se_bl)) ss_nil))) (fun a pn hc => (se_lcH (own := [("one", 18)]) hc nd (blkOk_by (own := [("one", 18)]) rfl) (si_listH (se_var (pv 5))) (fun _ _ _ _ _ => (sg_name (pg_name (i := 18) nd rfl (Or.inl rfl)))) (fun _ _ _ _ _ => sts_nil) (fun _ _ _ _ _ => (se_tup (sa_cons (se_ix (se_ix (se_var (pv 18)) se_int) se_int) (sa_cons (se_ix (se_ix (se_var (pv 18)) se_int) se_int) sa_nil)))))) (fun a pn hc => (sg_lstH hc (sgs_cons (sg_tupH hc (sgs_cons (sg_name (pg_name (i := 3) nd rfl (Or.inl rfl))) (sgs_cons (sg_name (pg_name (i := 4) nd rfl (Or.inl rfl))) sgs_nil))) (sgs_cons (sg_tupH hc (sgs_cons (sg_name (pg_name (i := 8) nd rfl (Or.inl rfl))) (sgs_cons (sg_name (pg_name (i := 9) nd rfl (Or.inl rfl))) sgs_nil))) (sgs_cons (sg_tupH hc (sgs_cons (sg_name (pg_name (i := 10) nd rfl (Or.inl rfl))) (sgs_cons (sg_name (pg_name (i := 11) nd rfl (Or.inl rfl))) sgs_nil))) sgs_nil))))) (by decide) (fun a pn hc => (st_neU (by have h := room64 hr; exact h) (se_mul (se_sub (se_var (pv 8)) (se_var (pv 3))) (se_sub (se_var (pv 11)) (se_var (pv 4)))) (se_mul (se_sub (se_var (pv 9)) (se_var (pv 4))) (se_sub (se_var (pv 10)) (se_var (pv 3)))))) (fun a pn => (ss_one (ss_ret se_bl))) (fun _ => rfl) rfl rfl rfl rfl rfl rfl) (ss_cons (ss_if (st_ne hr (se_ix (se_var (pv 5)) se_int) (se_ix (se_var (pv 5)) se_int)) (ss_cons (ss_asg (se_call h_line_through hr (by decide) rfl (sa_cons (se_ix (se_var (pv 5)) se_int) (sa_cons (se_ix (se_var (pv 5)) se_int) sa_nil))) (sg_tup rfl (sgs_cons (sg_name (pg_name (i := 12) nd rfl (Or.inr rfl))) (sgs_cons (sg_name (pg_name (i := 13) nd rfl (Or.inl rfl))) sgs_nil)))) (ss_cons (ss_asg (se_lc (own := [("one", 18)]) rfl nd (blkOk_by (own := [("one", 18)]) rfl) (si_c (si_list (se_var (pv 5)))) (fun _ _ _ _ _ => (sg_name (pg_name (i := 18) nd rfl (Or.inl rfl)))) (fun _ _ _ _ _ => sts_nil) (fun _ _ _ _ _ => (se_tup (sa_cons (se_ix (se_ix (se_var (pv 18)) se_int) se_int) (sa_cons (se_ix (se_ix (se_var (pv 18)) se_int) se_int) sa_nil))))) (sg_lst rfl (sgs_cons (sg_tup rfl (sgs_cons (sg_name (pg_name (i := 3) nd rfl (Or.inl rfl))) (sgs_cons (sg_name (pg_name (i := 4) nd rfl (Or.inl rfl))) sgs_nil))) (sgs_cons (sg_tup rfl (sgs_cons (sg_name (pg_name (i := 8) nd rfl (Or.inl rfl))) (sgs_cons (sg_name (pg_name (i := 9) nd rfl (Or.inl rfl))) sgs_nil))) (sgs_cons (sg_tup rfl (sgs_cons (sg_name (pg_name (i := 10) nd rfl (Or.inl rfl))) (sgs_cons (sg_name (pg_name (i := 11) nd rfl (Or.inl rfl))) sgs_nil))) sgs_nil))))) (ss_cons (ss_set (i := 14) nd rfl (Or.inl rfl) (se_sub (se_mul (se_sub (se_var (pv 8)) (se_var (pv 3))) (se_sub (se_var (pv 11)) (se_var (pv 4)))) (se_mul (se_sub (se_var (pv 9)) (se_var (pv 4))) (se_sub (se_var (pv 10)) (se_var (pv 3)))))) (ss_cons (ss_set (i := 15) nd rfl (Or.inl rfl) (se_mul (se_call h__law_sign hr (by decide) rfl (sa_cons (se_var (pv 12)) (sa_cons (se_call h_point_of hr (by decide) rfl (sa_cons (se_ix (se_ix (se_var (pv 5)) se_int) se_int) (sa_cons (se_ix (se_ix (se_var (pv 5)) se_int) se_int) sa_nil))) sa_nil))) (se_if (st_val (se_var (pv 13))) se_int (se_neg se_int)))) (ss_one (ss_if (st_w (sw_or (st_ne hr (se_lc (own := [("x", 3), ("y", 4)]) rfl nd (blkOk_by (own := [("x", 3), ("y", 4)]) rfl) (si_c (si_list (se_sl (se_var (pv 5)) so_none (so_some se_int)))) (fun _ _ _ _ _ => (sg_tup rfl (sgs_cons (sg_name (pg_name (i := 3) nd rfl (Or.inl rfl))) (sgs_cons (sg_name (pg_name (i := 4) nd rfl (Or.inl rfl))) sgs_nil)))) (fun _ _ _ _ _ => (sts_one (st_ne hr (se_call h__law_sign hr (by decide) rfl (sa_cons (se_var (pv 12)) (sa_cons (se_call h_point_of hr (by decide) rfl (sa_cons (se_var (pv 3)) (sa_cons (se_var (pv 4)) sa_nil))) sa_nil))) se_int))) (fun _ _ _ _ _ => (se_var (pv 3)))) (se_lst sa_nil)) (sw_or1 (st_ne hr (se_var (pv 15)) (se_sub (se_if (st_gt (se_var (pv 14)) se_int) se_int se_int) (se_if (st_lt (se_var (pv 14)) se_int) se_int se_int)))))) (ss_one (ss_ret se_bl)) ss_nil)))))) ss_nil) (ss_cons (ss_set (i := 16) nd rfl (Or.inl rfl) (se_lst (sa_cons (se_tup (sa_cons se_int (sa_cons (se_tup (sa_cons se_int (sa_cons se_int sa_nil))) (sa_cons (se_tup (sa_cons se_int (sa_cons se_int sa_nil))) (sa_cons (se_tup (sa_cons se_int (sa_cons se_int sa_nil))) sa_nil))))) (sa_cons (se_tup (sa_cons se_int (sa_cons (se_tup (sa_cons se_int (sa_cons se_int sa_nil))) (sa_cons (se_tup (sa_cons se_int (sa_cons se_int sa_nil))) (sa_cons (se_tup (sa_cons se_int (sa_cons se_int sa_nil))) sa_nil))))) (sa_cons (se_tup (sa_cons se_int (sa_cons (se_tup (sa_cons se_int (sa_cons se_int sa_nil))) (sa_cons (se_tup (sa_cons se_int (sa_cons se_int sa_nil))) (sa_cons (se_tup (sa_cons se_int (sa_cons se_int sa_nil))) sa_nil))))) (sa_cons (se_tup (sa_cons se_int (sa_cons (se_tup (sa_cons se_int (sa_cons se_int sa_nil))) (sa_cons (se_tup (sa_cons se_int (sa_cons se_int sa_nil))) (sa_cons (se_tup (sa_cons se_int (sa_cons se_int sa_nil))) sa_nil))))) (sa_cons se_non (sa_cons (se_tup (sa_cons se_bl (sa_cons (se_tup (sa_cons se_int (sa_cons se_int sa_nil))) (sa_cons (se_tup (sa_cons se_int (sa_cons se_int sa_nil))) (sa_cons (se_tup (sa_cons se_int (sa_cons se_int sa_nil))) sa_nil))))) sa_nil)))))))) (ss_one (ss_ret (se_eq hr (se_lc (own := [("thing", 19)]) rfl nd (blkOk_by (own := [("thing", 19)]) rfl) (si_c (si_list (se_var (pv 16)))) (fun _ _ _ _ _ => (sg_name (pg_name (i := 19) nd rfl (Or.inl rfl)))) (fun _ _ _ _ _ => (sts_one (st_notB (se_call h_is_curve hr (by decide) rfl (sa_cons (se_var (pv 19)) sa_nil)) se_bl))) (fun _ _ _ _ _ => (se_var (pv 19)))) (se_lst sa_nil)))))))))
theorem ok__law_least {f : Addr} {fd : FuncData} (F : Fun K "_law_least" "_law_least" s__law_least f fd) (gm : mg "_law_least" = some (.ref f)) : Df P w K mg base "_law_least" 1 1 F__law_least := by
  have nd : (["point", "found", "one", "upper", "lower"] : List Str).Nodup := by decide +kernel
  refine df_of (N := ["point", "found", "one", "upper", "lower"]) (ps := ["point"]) F ⟨rfl, rfl, rfl, nd, rfl, by decide +kernel, by decide +kernel⟩ rfl rfl gm (F.binds (ps := ["point"]) fun _ _ _ _ _ _ us hl => match us, hl with | [_], _ => rfl) fun cdv A outer s0 H E aw hr => ?_
  exact (ss_cons (ss_own (i := 1) (fun _ he => ps_set (i := 1) nd rfl (Or.inl rfl) he) sa_nil) (ss_cons (ss_for PassesOwn.never rfl (si_tup (se_var (pv 0))) (sg_name (pg_name (i := 2) nd rfl (Or.inl rfl))) (ss_cons (ss_asg (se_ix (se_var (pv 2)) se_int) (sg_tup rfl (sgs_cons (sg_name (pg_name (i := 3) nd rfl (Or.inl rfl))) (sgs_cons (sg_name (pg_name (i := 4) nd rfl (Or.inl rfl))) sgs_nil)))) (ss_one (ss_app (ps_expr (pe_bm PySem.F.plainAttrs_list PySem.F.slot_list_append PySem.F.type_list_append mt_append (pv 1) (sa_cons (se_tup (sa_cons (se_if (st_w (sw_and (st_eq hr (se_mul (se_div (se_var (pv 3)) se_int) se_int) (se_var (pv 3))) (sw_and1 (st_eq hr (se_var (pv 4)) se_int)))) (se_tup (sa_cons (se_div (se_var (pv 3)) se_int) (sa_cons se_int sa_nil))) (se_tup (sa_cons (se_var (pv 3)) (sa_cons (se_var (pv 4)) sa_nil)))) (sa_cons (se_tup (sa_cons se_int (sa_cons se_int sa_nil))) (sa_cons (se_tup (sa_cons se_int (sa_cons se_int sa_nil))) sa_nil)))) sa_nil))))))) (ss_freeze (i := 1) (ss_one (ss_ret (se_tup (sa_cons (se_ix (se_var (pv 1)) se_int) (sa_cons (se_ix (se_var (pv 1)) se_int) sa_nil))))))))
theorem ok_is_less {f : Addr} {fd : FuncData} (F : Fun K "is_less" "is_less" s_is_less f fd) (gm : mg "is_less" = some (.ref f)) : Df P w K mg base "is_less" 2 1 F_is_less := by
  have nd : (["one", "other"] : List Str).Nodup := by decide +kernel
  refine df_of (N := ["one", "other"]) (ps := ["one", "other"]) F ⟨rfl, rfl, rfl, nd, rfl, by decide +kernel, by decide +kernel⟩ rfl rfl gm (F.binds (ps := ["one", "other"]) fun _ _ _ _ _ _ us hl => match us, hl with | [_, _], _ => rfl) fun cdv A outer s0 H E aw hr => ?_
  exact (ss_one (ss_ret (se_lt (se_mul (se_ix (se_var (pv 0)) se_int) (se_ix (se_var (pv 1)) se_int)) (se_mul (se_ix (se_var (pv 1)) se_int) (se_ix (se_var (pv 0)) se_int)))))
theorem ok_middle {f : Addr} {fd : FuncData} (F : Fun K "middle" "middle" s_middle f fd) (gm : mg "middle" = some (.ref f)) (h_added : Df P w K mg base "added" 2 3 F_added) (h_half : Df P w K mg base "half" 1 3 F_half) : Df P w K mg base "middle" 2 4 F_middle := by
  have nd : (["one", "other"] : List Str).Nodup := by decide +kernel
  refine df_of (N := ["one", "other"]) (ps := ["one", "other"]) F ⟨rfl, rfl, rfl, nd, rfl, by decide +kernel, by decide +kernel⟩ rfl rfl gm (F.binds (ps := ["one", "other"]) fun _ _ _ _ _ _ us hl => match us, hl with | [_, _], _ => rfl) fun cdv A outer s0 H E aw hr => ?_
  exact (ss_one (ss_ret (se_call h_half hr (by decide) rfl (sa_cons (se_call h_added hr (by decide) rfl (sa_cons (se_var (pv 0)) (sa_cons (se_var (pv 1)) sa_nil))) sa_nil))))
theorem ok_sum_of {f : Addr} {fd : FuncData} (F : Fun K "sum_of" "sum_of" s_sum_of f fd) (gm : mg "sum_of" = some (.ref f)) (k_NOTHING : Kst K mg "NOTHING" c_NOTHING) (h_added : Df P w K mg base "added" 2 3 F_added) : Df P w K mg base "sum_of" 1 4 F_sum_of := by
  have nd : (["rows", "found", "one"] : List Str).Nodup := by decide +kernel
  refine df_of (N := ["rows", "found", "one"]) (ps := ["rows"]) F ⟨rfl, rfl, rfl, nd, rfl, by decide +kernel, by decide +kernel⟩ rfl rfl gm (F.binds (ps := ["rows"]) fun _ _ _ _ _ _ us hl => match us, hl with | [_], _ => rfl) fun cdv A outer s0 H E aw hr => ?_
  exact (ss_cons (ss_set (i := 1) nd rfl (Or.inl rfl) (se_glob k_NOTHING rfl)) (ss_cons (ss_for PassesOwn.never rfl (si_list (se_var (pv 0))) (sg_name (pg_name (i := 2) nd rfl (Or.inl rfl))) (ss_one (ss_set (i := 1) nd rfl (Or.inl rfl) (se_call h_added hr (by decide) rfl (sa_cons (se_var (pv 1)) (sa_cons (se_var (pv 2)) sa_nil)))))) (ss_one (ss_ret (se_var (pv 1))))))
theorem ok_whole {f : Addr} {fd : FuncData} (F : Fun K "whole" "whole" s_whole f fd) (gm : mg "whole" = some (.ref f)) : Df P w K mg base "whole" 1 1 F_whole := by
  have nd : (["number"] : List Str).Nodup := by decide +kernel
  refine df_of (N := ["number"]) (ps := ["number"]) F ⟨rfl, rfl, rfl, nd, rfl, by decide +kernel, by decide +kernel⟩ rfl rfl gm (F.binds (ps := ["number"]) fun _ _ _ _ _ _ us hl => match us, hl with | [_], _ => rfl) fun cdv A outer s0 H E aw hr => ?_
  exact (ss_one (ss_ret (se_tup (sa_cons (se_var (pv 0)) (sa_cons se_int sa_nil)))))
theorem ok_floor {f : Addr} {fd : FuncData} (F : Fun K "floor" "floor" s_floor f fd) (gm : mg "floor" = some (.ref f)) : Df P w K mg base "floor" 1 1 F_floor := by
  have nd : (["one"] : List Str).Nodup := by decide +kernel
  refine df_of (N := ["one"]) (ps := ["one"]) F ⟨rfl, rfl, rfl, nd, rfl, by decide +kernel, by decide +kernel⟩ rfl rfl gm (F.binds (ps := ["one"]) fun _ _ _ _ _ _ us hl => match us, hl with | [_], _ => rfl) fun cdv A outer s0 H E aw hr => ?_
  exact (ss_one (ss_ret (se_div (se_ix (se_var (pv 0)) se_int) (se_ix (se_var (pv 0)) se_int))))
theorem ok__law_same {f : Addr} {fd : FuncData} (F : Fun K "_law_same" "_law_same" s__law_same f fd) (gm : mg "_law_same" = some (.ref f)) : Df P w K mg base "_law_same" 2 1 F__law_same := by
  have nd : (["one", "other"] : List Str).Nodup := by decide +kernel
  refine df_of (N := ["one", "other"]) (ps := ["one", "other"]) F ⟨rfl, rfl, rfl, nd, rfl, by decide +kernel, by decide +kernel⟩ rfl rfl gm (F.binds (ps := ["one", "other"]) fun _ _ _ _ _ _ us hl => match us, hl with | [_, _], _ => rfl) fun cdv A outer s0 H E aw hr => ?_
  exact (ss_one (ss_ret (se_eq hr (se_mul (se_ix (se_var (pv 0)) se_int) (se_ix (se_var (pv 1)) se_int)) (se_mul (se_ix (se_var (pv 1)) se_int) (se_ix (se_var (pv 0)) se_int)))))
theorem ok__law_fractions {f : Addr} {fd : FuncData} (F : Fun K "_law_fractions" "_law_fractions" s__law_fractions f fd) (gm : mg "_law_fractions" = some (.ref f)) (h__law_next : Df P w K mg base "_law_next" 2 1 F__law_next) (h_fraction : Df P w K mg base "fraction" 2 2 F_fraction) (h__law_by : Df P w K mg base "_law_by" 2 1 F__law_by) (h_added : Df P w K mg base "added" 2 3 F_added) (h__law_plus : Df P w K mg base "_law_plus" 2 1 F__law_plus) (h_minus : Df P w K mg base "minus" 2 3 F_minus) (h_times : Df P w K mg base "times" 2 3 F_times) (h_square : Df P w K mg base "square" 1 1 F_square) (h_half : Df P w K mg base "half" 1 3 F_half) (h_turned : Df P w K mg base "turned" 1 1 F_turned) (h_middle : Df P w K mg base "middle" 2 4 F_middle) (h_sum_of : Df P w K mg base "sum_of" 1 4 F_sum_of) (h_whole : Df P w K mg base "whole" 1 1 F_whole) (h_over : Df P w K mg base "over" 2 3 F_over) (h_is_fraction : Df P w K mg base "is_fraction" 1 2 F_is_fraction) (h__law_same : Df P w K mg base "_law_same" 2 1 F__law_same) (h_sign : Df P w K mg base "sign" 1 2 F_sign) (h__law_side : Df P w K mg base "_law_side" 1 1 F__law_side) (h_is_less : Df P w K mg base "is_less" 2 1 F_is_less) (h_floor : Df P w K mg base "floor" 1 1 F_floor) : Df P w K mg base "_law_fractions" 1 5 F__law_fractions := by
  have nd : (["w", "one", "other", "a", "b", "minus_b", "rows", "told", "due", "thing"] : List Str).Nodup := by decide +kernel
  refine df_of (N := ["w", "one", "other", "a", "b", "minus_b", "rows", "told", "due", "thing"]) (ps := ["w"]) F ⟨rfl, rfl, rfl, nd, rfl, by decide +kernel, by decide +kernel⟩ rfl rfl gm (F.binds (ps := ["w"]) fun _ _ _ _ _ _ us hl => match us, hl with | [_], _ => rfl) fun cdv A outer s0 H E aw hr => ?_
  exact (ss_cons (ss_par (ps_par (i := 1) (j := 2) rfl nd rfl rfl (by decide) rfl rfl (sa_cons (se_tup (sa_cons (se_sub (se_call h__law_next hr (by decide) rfl (sa_cons (se_var (pv 0)) (sa_cons se_int sa_nil))) se_int) (sa_cons (se_add se_int (se_call h__law_next hr (by decide) rfl (sa_cons (se_var (pv 0)) (sa_cons se_int sa_nil)))) sa_nil))) (sa_cons (se_tup (sa_cons (se_sub (se_call h__law_next hr (by decide) rfl (sa_cons (se_var (pv 0)) (sa_cons se_int sa_nil))) se_int) (sa_cons (se_add se_int (se_call h__law_next hr (by decide) rfl (sa_cons (se_var (pv 0)) (sa_cons se_int sa_nil)))) sa_nil))) sa_nil)) (by rfl))) (ss_cons (ss_par (ps_par (i := 3) (j := 4) rfl nd rfl rfl (by decide) rfl rfl (sa_cons (se_call h_fraction hr (by decide) rfl (sa_cons (se_ix (se_var (pv 1)) se_int) (sa_cons (se_ix (se_var (pv 1)) se_int) sa_nil))) (sa_cons (se_call h_fraction hr (by decide) rfl (sa_cons (se_ix (se_var (pv 2)) se_int) (sa_cons (se_ix (se_var (pv 2)) se_int) sa_nil))) sa_nil)) (by rfl))) (ss_cons (ss_set (i := 5) nd rfl (Or.inl rfl) (se_call h__law_by hr (by decide) rfl (sa_cons (se_tup (sa_cons (se_neg se_int) (sa_cons se_int sa_nil))) (sa_cons (se_var (pv 2)) sa_nil)))) (ss_cons (ss_own (i := 6) (fun _ he => ps_set (i := 6) nd rfl (Or.inl rfl) he) (sa_cons (se_tup (sa_cons (se_call h_added hr (by decide) rfl (sa_cons (se_var (pv 3)) (sa_cons (se_var (pv 4)) sa_nil))) (sa_cons (se_call h__law_plus hr (by decide) rfl (sa_cons (se_var (pv 1)) (sa_cons (se_var (pv 2)) sa_nil))) sa_nil))) (sa_cons (se_tup (sa_cons (se_call h_minus hr (by decide) rfl (sa_cons (se_var (pv 3)) (sa_cons (se_var (pv 4)) sa_nil))) (sa_cons (se_call h__law_plus hr (by decide) rfl (sa_cons (se_var (pv 1)) (sa_cons (se_var (pv 5)) sa_nil))) sa_nil))) (sa_cons (se_tup (sa_cons (se_call h_times hr (by decide) rfl (sa_cons (se_var (pv 3)) (sa_cons (se_var (pv 4)) sa_nil))) (sa_cons (se_call h__law_by hr (by decide) rfl (sa_cons (se_var (pv 1)) (sa_cons (se_var (pv 2)) sa_nil))) sa_nil))) (sa_cons (se_tup (sa_cons (se_call h_square hr (by decide) rfl (sa_cons (se_var (pv 3)) sa_nil)) (sa_cons (se_call h__law_by hr (by decide) rfl (sa_cons (se_var (pv 1)) (sa_cons (se_var (pv 1)) sa_nil))) sa_nil))) (sa_cons (se_tup (sa_cons (se_call h_half hr (by decide) rfl (sa_cons (se_var (pv 3)) sa_nil)) (sa_cons (se_call h__law_by hr (by decide) rfl (sa_cons (se_var (pv 1)) (sa_cons (se_tup (sa_cons se_int (sa_cons se_int sa_nil))) sa_nil))) sa_nil))) sa_nil)))))) (ss_cons (ss_catO (i := 6) (fun _ he => ps_set (i := 6) nd rfl (Or.inl rfl) he) (pv 6) (se_lst (sa_cons (se_tup (sa_cons (se_call h_turned hr (by decide) rfl (sa_cons (se_var (pv 3)) sa_nil)) (sa_cons (se_tup (sa_cons (se_sub se_int (se_ix (se_var (pv 1)) se_int)) (sa_cons (se_ix (se_var (pv 1)) se_int) sa_nil))) sa_nil))) (sa_cons (se_tup (sa_cons (se_call h_middle hr (by decide) rfl (sa_cons (se_var (pv 3)) (sa_cons (se_var (pv 4)) sa_nil))) (sa_cons (se_call h__law_by hr (by decide) rfl (sa_cons (se_call h__law_plus hr (by decide) rfl (sa_cons (se_var (pv 1)) (sa_cons (se_var (pv 2)) sa_nil))) (sa_cons (se_tup (sa_cons se_int (sa_cons se_int sa_nil))) sa_nil))) sa_nil))) (sa_cons (se_tup (sa_cons (se_call h_sum_of hr (by decide) rfl (sa_cons (se_lst (sa_cons (se_var (pv 3)) (sa_cons (se_var (pv 4)) (sa_cons (se_var (pv 3)) sa_nil)))) sa_nil)) (sa_cons (se_call h__law_plus hr (by decide) rfl (sa_cons (se_call h__law_plus hr (by decide) rfl (sa_cons (se_var (pv 1)) (sa_cons (se_var (pv 2)) sa_nil))) (sa_cons (se_var (pv 1)) sa_nil))) sa_nil))) (sa_cons (se_tup (sa_cons (se_call h_whole hr (by decide) rfl (sa_cons se_int sa_nil)) (sa_cons (se_tup (sa_cons se_int (sa_cons se_int sa_nil))) sa_nil))) sa_nil)))))) (ss_cons (ss_if (st_ne hr (se_ix (se_var (pv 2)) se_int) se_int) (ss_one (ss_app (ps_expr (pe_bm PySem.F.plainAttrs_list PySem.F.slot_list_append PySem.F.type_list_append mt_append (pv 6) (sa_cons (se_tup (sa_cons (se_call h_over hr (by decide) rfl (sa_cons (se_var (pv 3)) (sa_cons (se_var (pv 4)) sa_nil))) (sa_cons (se_tup (sa_cons (se_mul (se_ix (se_var (pv 1)) se_int) (se_ix (se_var (pv 2)) se_int)) (sa_cons (se_mul (se_ix (se_var (pv 1)) se_int) (se_ix (se_var (pv 2)) se_int)) sa_nil))) sa_nil))) sa_nil))))) ss_nil) (ss_cons (ss_if (st_ne hr (se_lc (own := [("told", 7), ("due", 8)]) rfl nd (blkOk_by (own := [("told", 7), ("due", 8)]) rfl) (si_own (pv 6)) (fun _ _ _ _ _ => (sg_tup rfl (sgs_cons (sg_name (pg_name (i := 7) nd rfl (Or.inl rfl))) (sgs_cons (sg_name (pg_name (i := 8) nd rfl (Or.inl rfl))) sgs_nil)))) (fun _ _ _ _ _ => (sts_one (st_w (sw_or (st_notB (se_call h_is_fraction hr (by decide) rfl (sa_cons (se_var (pv 7)) sa_nil)) se_bl) (sw_or1 (st_not (st_val (se_call h__law_same hr (by decide) rfl (sa_cons (se_var (pv 7)) (sa_cons (se_var (pv 8)) sa_nil)))))))))) (fun _ _ _ _ _ => (se_var (pv 7)))) (se_lst sa_nil)) (ss_one (ss_ret se_bl)) ss_nil) (ss_cons (ss_if (st_w (sw_or (st_ne hr (se_call h_sign hr (by decide) rfl (sa_cons (se_var (pv 3)) sa_nil)) (se_call h__law_side hr (by decide) rfl (sa_cons (se_var (pv 1)) sa_nil))) (sw_or (st_ne hr (se_call h_is_less hr (by decide) rfl (sa_cons (se_var (pv 3)) (sa_cons (se_var (pv 4)) sa_nil))) (se_lt (se_call h__law_side hr (by decide) rfl (sa_cons (se_call h__law_plus hr (by decide) rfl (sa_cons (se_var (pv 1)) (sa_cons (se_var (pv 5)) sa_nil))) sa_nil)) se_int)) (sw_or1 (st_not (st_chain_le_lt (se_mul (se_call h_floor hr (by decide) rfl (sa_cons (se_var (pv 3)) sa_nil)) (se_ix (se_var (pv 1)) se_int)) (se_ix (se_var (pv 1)) se_int) (se_mul (se_add (se_call h_floor hr (by decide) rfl (sa_cons (se_var (pv 3)) sa_nil)) se_int) (se_ix (se_var (pv 1)) se_int)))))))) (ss_one (ss_ret se_bl)) ss_nil) (ss_one (ss_ret (se_eq hr (se_lc (own := [("thing", 9)]) rfl nd (blkOk_by (own := [("thing", 9)]) rfl) (si_c (si_tup (se_tup (sa_cons (se_tup (sa_cons se_int (sa_cons se_int sa_nil))) (sa_cons (se_tup (sa_cons se_int (sa_cons se_int sa_nil))) (sa_cons (se_tup (sa_cons se_int (sa_cons (se_neg se_int) sa_nil))) (sa_cons (se_lst (sa_cons se_int (sa_cons se_int sa_nil))) (sa_cons se_non (sa_cons (se_tup (sa_cons se_bl (sa_cons se_int sa_nil))) (sa_cons (se_tup (sa_cons se_int sa_nil)) sa_nil)))))))))) (fun _ _ _ _ _ => (sg_name (pg_name (i := 9) nd rfl (Or.inl rfl)))) (fun _ _ _ _ _ => (sts_one (st_notB (se_call h_is_fraction hr (by decide) rfl (sa_cons (se_var (pv 9)) sa_nil)) se_bl))) (fun _ _ _ _ _ => (se_var (pv 9)))) (se_lst sa_nil))))))))))))
theorem ok_sign_of_two {f : Addr} {fd : FuncData} (F : Fun K "sign_of_two" "sign_of_two" s_sign_of_two f fd) (gm : mg "sign_of_two" = some (.ref f)) (k_NOTHING : Kst K mg "NOTHING" c_NOTHING) (h_sign_of_root : Df P w K mg base "sign_of_root" 1 4 F_sign_of_root) (h_sign : Df P w K mg base "sign" 1 2 F_sign) (h_square : Df P w K mg base "square" 1 1 F_square) (h_times : Df P w K mg base "times" 2 3 F_times) (h_sum_of : Df P w K mg base "sum_of" 1 4 F_sum_of) (h_minus : Df P w K mg base "minus" 2 3 F_minus) : Df P w K mg base "sign_of_two" 5 5 F_sign_of_two := by
  have nd : (["a", "b", "c", "d", "e", "left", "right", "inner"] : List Str).Nodup := by decide +kernel
  refine df_of (N := ["a", "b", "c", "d", "e", "left", "right", "inner"]) (ps := ["a", "b", "c", "d", "e"]) F ⟨rfl, rfl, rfl, nd, rfl, by decide +kernel, by decide +kernel⟩ rfl rfl gm (F.binds (ps := ["a", "b", "c", "d", "e"]) fun _ _ _ _ _ _ us hl => match us, hl with | [_, _, _, _, _], _ => rfl) fun cdv A outer s0 H E aw hr => ?_
  exact (ss_cons (ss_if (st_w (sw_or (st_eq hr (se_var (pv 3)) (se_glob k_NOTHING rfl)) (sw_or1 (st_eq hr (se_var (pv 4)) (se_glob k_NOTHING rfl))))) (ss_one (ss_ret (se_call h_sign_of_root hr (by decide) rfl (sa_cons (se_tup (sa_cons (se_var (pv 0)) (sa_cons (se_var (pv 1)) (sa_cons (se_var (pv 2)) sa_nil)))) sa_nil)))) ss_nil) (ss_cons (ss_set (i := 5) nd rfl (Or.inl rfl) (se_call h_sign_of_root hr (by decide) rfl (sa_cons (se_tup (sa_cons (se_var (pv 0)) (sa_cons (se_var (pv 1)) (sa_cons (se_var (pv 2)) sa_nil)))) sa_nil))) (ss_cons (ss_set (i := 6) nd rfl (Or.inl rfl) (se_call h_sign hr (by decide) rfl (sa_cons (se_var (pv 3)) sa_nil))) (ss_cons (ss_if (st_w (sw_or (st_eq hr (se_var (pv 5)) se_int) (sw_or1 (st_eq hr (se_var (pv 5)) (se_var (pv 6)))))) (ss_one (ss_ret (se_var (pv 6)))) ss_nil) (ss_cons (ss_set (i := 7) nd rfl (Or.inl rfl) (se_tup (sa_cons (se_call h_minus hr (by decide) rfl (sa_cons (se_call h_sum_of hr (by decide) rfl (sa_cons (se_lst (sa_cons (se_call h_square hr (by decide) rfl (sa_cons (se_var (pv 0)) sa_nil)) (sa_cons (se_call h_times hr (by decide) rfl (sa_cons (se_call h_square hr (by decide) rfl (sa_cons (se_var (pv 1)) sa_nil)) (sa_cons (se_var (pv 2)) sa_nil))) sa_nil))) sa_nil)) (sa_cons (se_call h_times hr (by decide) rfl (sa_cons (se_call h_square hr (by decide) rfl (sa_cons (se_var (pv 3)) sa_nil)) (sa_cons (se_var (pv 4)) sa_nil))) sa_nil))) (sa_cons (se_call h_times hr (by decide) rfl (sa_cons (se_tup (sa_cons se_int (sa_cons se_int sa_nil))) (sa_cons (se_call h_times hr (by decide) rfl (sa_cons (se_var (pv 0)) (sa_cons (se_var (pv 1)) sa_nil))) sa_nil))) (sa_cons (se_var (pv 2)) sa_nil))))) (ss_one (ss_ret (se_mul (se_var (pv 5)) (se_call h_sign_of_root hr (by decide) rfl (sa_cons (se_var (pv 7)) sa_nil))))))))))
theorem ok_compare {f : Addr} {fd : FuncData} (F : Fun K "compare" "compare" s_compare f fd) (gm : mg "compare" = some (.ref f)) (h_minus : Df P w K mg base "minus" 2 3 F_minus) (h_turned : Df P w K mg base "turned" 1 1 F_turned) (h_sign_of_two : Df P w K mg base "sign_of_two" 5 5 F_sign_of_two) : Df P w K mg base "compare" 2 6 F_compare := by
  have nd : (["one", "other", "a", "b", "c", "d", "e", "f"] : List Str).Nodup := by decide +kernel
  refine df_of (N := ["one", "other", "a", "b", "c", "d", "e", "f"]) (ps := ["one", "other"]) F ⟨rfl, rfl, rfl, nd, rfl, by decide +kernel, by decide +kernel⟩ rfl rfl gm (F.binds (ps := ["one", "other"]) fun _ _ _ _ _ _ us hl => match us, hl with | [_, _], _ => rfl) fun cdv A outer s0 H E aw hr => ?_
  exact (ss_cons (ss_asg (se_var (pv 0)) (sg_tup rfl (sgs_cons (sg_name (pg_name (i := 2) nd rfl (Or.inl rfl))) (sgs_cons (sg_name (pg_name (i := 3) nd rfl (Or.inl rfl))) (sgs_cons (sg_name (pg_name (i := 4) nd rfl (Or.inl rfl))) sgs_nil))))) (ss_cons (ss_asg (se_var (pv 1)) (sg_tup rfl (sgs_cons (sg_name (pg_name (i := 5) nd rfl (Or.inl rfl))) (sgs_cons (sg_name (pg_name (i := 6) nd rfl (Or.inl rfl))) (sgs_cons (sg_name (pg_name (i := 7) nd rfl (Or.inl rfl))) sgs_nil))))) (ss_one (ss_ret (se_call h_sign_of_two hr (by decide) rfl (sa_cons (se_call h_minus hr (by decide) rfl (sa_cons (se_var (pv 2)) (sa_cons (se_var (pv 5)) sa_nil))) (sa_cons (se_var (pv 3)) (sa_cons (se_var (pv 4)) (sa_cons (se_call h_turned hr (by decide) rfl (sa_cons (se_var (pv 6)) sa_nil)) (sa_cons (se_var (pv 7)) sa_nil))))))))))
theorem ok_sorted_roots {f : Addr} {fd : FuncData} (F : Fun K "sorted_roots" "sorted_roots" s_sorted_roots f fd) (gm : mg "sorted_roots" = some (.ref f)) (b_len : mg "len" = none) (b_tuple : mg "tuple" = none) (h_compare : Df P w K mg base "compare" 2 6 F_compare) : Df P w K mg base "sorted_roots" 1 7 F_sorted_roots := by
  have nd : (["rows", "found", "one", "place", "own"] : List Str).Nodup := by decide +kernel
  refine df_of (N := ["rows", "found", "one", "place", "own"]) (ps := ["rows"]) F ⟨rfl, rfl, rfl, nd, rfl, by decide +kernel, by decide +kernel⟩ rfl rfl gm (F.binds (ps := ["rows"]) fun _ _ _ _ _ _ us hl => match us, hl with | [_], _ => rfl) fun cdv A outer s0 H E aw hr => ?_
  exact (ss_cons (ss_own (i := 1) (fun _ he => ps_set (i := 1) nd rfl (Or.inl rfl) he) sa_nil) (ss_cons (ss_for PassesOwn.never rfl (si_list (se_var (pv 0))) (sg_name (pg_name (i := 2) nd rfl (Or.inr rfl))) (ss_cons (ss_set (i := 3) nd rfl (Or.inl rfl) (se_len rfl b_len (sa_cons (se_lc (own := [("own", 4)]) rfl nd (blkOk_by (own := [("own", 4)]) rfl) (si_own (pv 1)) (fun _ _ _ _ _ => (sg_name (pg_name (i := 4) nd rfl (Or.inl rfl)))) (fun _ _ _ _ _ => (sts_one (st_le (se_call h_compare hr (by decide) rfl (sa_cons (se_var (pv 4)) (sa_cons (se_var (pv 2)) sa_nil))) se_int))) (fun _ _ _ _ _ => (se_var (pv 4)))) sa_nil))) (ss_one (ss_ins (ps_expr (pe_bm PySem.F.plainAttrs_list PySem.F.slot_list_insert PySem.F.type_list_insert mt_insert (pv 1) (sa_cons (se_var (pv 3)) (sa_cons (se_var (pv 2)) sa_nil)))))))) (ss_freeze (i := 1) (ss_one (ss_ret (se_tuplec rfl b_tuple (sa_cons (se_var (pv 1)) sa_nil)))))))
theorem ok_turned_root {f : Addr} {fd : FuncData} (F : Fun K "turned_root" "turned_root" s_turned_root f fd) (gm : mg "turned_root" = some (.ref f)) (h_turned : Df P w K mg base "turned" 1 1 F_turned) : Df P w K mg base "turned_root" 1 2 F_turned_root := by
  have nd : (["one"] : List Str).Nodup := by decide +kernel
  refine df_of (N := ["one"]) (ps := ["one"]) F ⟨rfl, rfl, rfl, nd, rfl, by decide +kernel, by decide +kernel⟩ rfl rfl gm (F.binds (ps := ["one"]) fun _ _ _ _ _ _ us hl => match us, hl with | [_], _ => rfl) fun cdv A outer s0 H E aw hr => ?_
  exact (ss_one (ss_ret (se_tup (sa_cons (se_call h_turned hr (by decide) rfl (sa_cons (se_ix (se_var (pv 0)) se_int) sa_nil)) (sa_cons (se_call h_turned hr (by decide) rfl (sa_cons (se_ix (se_var (pv 0)) se_int) sa_nil)) (sa_cons (se_ix (se_var (pv 0)) se_int) sa_nil))))))
theorem ok_minus_root {f : Addr} {fd : FuncData} (F : Fun K "minus_root" "minus_root" s_minus_root f fd) (gm : mg "minus_root" = some (.ref f)) (h_turned_root : Df P w K mg base "turned_root" 1 2 F_turned_root) (h_added_root : Df P w K mg base "added_root" 2 5 F_added_root) : Df P w K mg base "minus_root" 2 6 F_minus_root := by
  have nd : (["one", "other"] : List Str).Nodup := by decide +kernel
  refine df_of (N := ["one", "other"]) (ps := ["one", "other"]) F ⟨rfl, rfl, rfl, nd, rfl, by decide +kernel, by decide +kernel⟩ rfl rfl gm (F.binds (ps := ["one", "other"]) fun _ _ _ _ _ _ us hl => match us, hl with | [_, _], _ => rfl) fun cdv A outer s0 H E aw hr => ?_
  exact (ss_one (ss_ret (se_call h_added_root hr (by decide) rfl (sa_cons (se_var (pv 0)) (sa_cons (se_call h_turned_root hr (by decide) rfl (sa_cons (se_var (pv 1)) sa_nil)) sa_nil)))))
theorem ok_over_root {f : Addr} {fd : FuncData} (F : Fun K "over_root" "over_root" s_over_root f fd) (gm : mg "over_root" = some (.ref f)) (h_square : Df P w K mg base "square" 1 1 F_square) (h_times : Df P w K mg base "times" 2 3 F_times) (h_minus : Df P w K mg base "minus" 2 3 F_minus) (h_over : Df P w K mg base "over" 2 3 F_over) (h_turned : Df P w K mg base "turned" 1 1 F_turned) (h_tidy : Df P w K mg base "tidy" 3 4 F_tidy) (h_times_root : Df P w K mg base "times_root" 2 5 F_times_root) : Df P w K mg base "over_root" 2 6 F_over_root := by
  have nd : (["one", "other", "a", "b", "c", "low", "back"] : List Str).Nodup := by decide +kernel
  refine df_of (N := ["one", "other", "a", "b", "c", "low", "back"]) (ps := ["one", "other"]) F ⟨rfl, rfl, rfl, nd, rfl, by decide +kernel, by decide +kernel⟩ rfl rfl gm (F.binds (ps := ["one", "other"]) fun _ _ _ _ _ _ us hl => match us, hl with | [_, _], _ => rfl) fun cdv A outer s0 H E aw hr => ?_
  exact (ss_cons (ss_asg (se_var (pv 1)) (sg_tup rfl (sgs_cons (sg_name (pg_name (i := 2) nd rfl (Or.inl rfl))) (sgs_cons (sg_name (pg_name (i := 3) nd rfl (Or.inl rfl))) (sgs_cons (sg_name (pg_name (i := 4) nd rfl (Or.inl rfl))) sgs_nil))))) (ss_cons (ss_set (i := 5) nd rfl (Or.inl rfl) (se_call h_minus hr (by decide) rfl (sa_cons (se_call h_square hr (by decide) rfl (sa_cons (se_var (pv 2)) sa_nil)) (sa_cons (se_call h_times hr (by decide) rfl (sa_cons (se_call h_square hr (by decide) rfl (sa_cons (se_var (pv 3)) sa_nil)) (sa_cons (se_var (pv 4)) sa_nil))) sa_nil)))) (ss_cons (ss_set (i := 6) nd rfl (Or.inl rfl) (se_call h_tidy hr (by decide) rfl (sa_cons (se_call h_over hr (by decide) rfl (sa_cons (se_var (pv 2)) (sa_cons (se_var (pv 5)) sa_nil))) (sa_cons (se_call h_turned hr (by decide) rfl (sa_cons (se_call h_over hr (by decide) rfl (sa_cons (se_var (pv 3)) (sa_cons (se_var (pv 5)) sa_nil))) sa_nil)) (sa_cons (se_var (pv 4)) sa_nil))))) (ss_one (ss_ret (se_call h_times_root hr (by decide) rfl (sa_cons (se_var (pv 0)) (sa_cons (se_var (pv 6)) sa_nil))))))))
theorem ok_root_of {f : Addr} {fd : FuncData} (F : Fun K "root_of" "root_of" s_root_of f fd) (gm : mg "root_of" = some (.ref f)) (k_NOTHING : Kst K mg "NOTHING" c_NOTHING) (k_WHOLE : Kst K mg "WHOLE" c_WHOLE) (h_tidy : Df P w K mg base "tidy" 3 4 F_tidy) : Df P w K mg base "root_of" 1 5 F_root_of := by
  have nd : (["c"] : List Str).Nodup := by decide +kernel
  refine df_of (N := ["c"]) (ps := ["c"]) F ⟨rfl, rfl, rfl, nd, rfl, by decide +kernel, by decide +kernel⟩ rfl rfl gm (F.binds (ps := ["c"]) fun _ _ _ _ _ _ us hl => match us, hl with | [_], _ => rfl) fun cdv A outer s0 H E aw hr => ?_
  exact (ss_one (ss_ret (se_call h_tidy hr (by decide) rfl (sa_cons (se_glob k_NOTHING rfl) (sa_cons (se_glob k_WHOLE rfl) (sa_cons (se_var (pv 0)) sa_nil))))))
theorem ok_is_root {f : Addr} {fd : FuncData} (F : Fun K "is_root" "is_root" s_is_root f fd) (gm : mg "is_root" = some (.ref f)) (k_NOTHING : Kst K mg "NOTHING" c_NOTHING) (b_isinstance : mg "isinstance" = none) (b_tuple : mg "tuple" = none) (b_len : mg "len" = none) (b_all : mg "all" = none) (h_is_fraction : Df P w K mg base "is_fraction" 1 2 F_is_fraction) : Df P w K mg base "is_root" 1 3 F_is_root := by
  have nd : (["thing", "one"] : List Str).Nodup := by decide +kernel
  refine df_of (N := ["thing", "one"]) (ps := ["thing"]) F ⟨rfl, rfl, rfl, nd, rfl, by decide +kernel, by decide +kernel⟩ rfl rfl gm (F.binds (ps := ["thing"]) fun _ _ _ _ _ _ us hl => match us, hl with | [_], _ => rfl) fun cdv A outer s0 H E aw hr => ?_
  exact (ss_cons (ss_if (st_w (sw_or (st_not (st_val (se_isi boot_t_tuple (by decide) rfl b_tuple rfl b_isinstance (se_var (pv 0))))) (sw_or (st_ne hr (se_len rfl b_len (sa_cons (se_var (pv 0)) sa_nil)) se_int) (sw_or1 (st_not (st_val (se_allc rfl rfl b_all (sa_cons (se_lc (own := [("one", 1)]) rfl nd (blkOk_by (own := [("one", 1)]) rfl) (si_c (si_tup (se_var (pv 0)))) (fun _ _ _ _ _ => (sg_name (pg_name (i := 1) nd rfl (Or.inl rfl)))) (fun _ _ _ _ _ => sts_nil) (fun _ _ _ _ _ => (se_call h_is_fraction hr (by decide) rfl (sa_cons (se_var (pv 1)) sa_nil)))) sa_nil)))))))) (ss_one (ss_ret se_bl)) ss_nil) (ss_one (ss_ret (se_and (se_ge (se_ix (se_ix (se_var (pv 0)) se_int) se_int) se_int) (se_one (se_eq hr (se_ne hr (se_ix (se_var (pv 0)) se_int) (se_glob k_NOTHING rfl)) (se_ne hr (se_ix (se_var (pv 0)) se_int) (se_glob k_NOTHING rfl))))))))
theorem ok__law_sums {f : Addr} {fd : FuncData} (F : Fun K "_law_sums" "_law_sums" s__law_sums f fd) (gm : mg "_law_sums" = some (.ref f)) (b_range : mg "range" = none) (h__law_next : Df P w K mg base "_law_next" 2 1 F__law_next) (h_fraction : Df P w K mg base "fraction" 2 2 F_fraction) (h_tidy : Df P w K mg base "tidy" 3 4 F_tidy) (h_added_root : Df P w K mg base "added_root" 2 5 F_added_root) (h__law_plus : Df P w K mg base "_law_plus" 2 1 F__law_plus) (h_minus_root : Df P w K mg base "minus_root" 2 6 F_minus_root) (h__law_by : Df P w K mg base "_law_by" 2 1 F__law_by) (h_times_root : Df P w K mg base "times_root" 2 5 F_times_root) (h_by_fraction : Df P w K mg base "by_fraction" 2 5 F_by_fraction) (h_over_root : Df P w K mg base "over_root" 2 6 F_over_root) (h_is_root : Df P w K mg base "is_root" 1 3 F_is_root) (h__law_same : Df P w K mg base "_law_same" 2 1 F__law_same) (h_root_of : Df P w K mg base "root_of" 1 5 F_root_of) (h_plain : Df P w K mg base "plain" 1 1 F_plain) (h_sign_of_root : Df P w K mg base "sign_of_root" 1 4 F_sign_of_root) : Df P w K mg base "_law_sums" 1 7 F__law_sums := by
  have nd : (["w", "c", "a", "b", "d", "e", "one", "other", "due", "back", "told", "whole_part", "root_part", "k", "thing"] : List Str).Nodup := by decide +kernel
  refine df_of (N := ["w", "c", "a", "b", "d", "e", "one", "other", "due", "back", "told", "whole_part", "root_part", "k", "thing"]) (ps := ["w"]) F ⟨rfl, rfl, rfl, nd, rfl, by decide +kernel, by decide +kernel⟩ rfl rfl gm (F.binds (ps := ["w"]) fun _ _ _ _ _ _ us hl => match us, hl with | [_], _ => rfl) fun cdv A outer s0 H E aw hr => ?_
  exact (ss_cons (ss_set (i := 1) nd rfl (Or.inl rfl) (se_ix (se_tup (sa_cons (se_tup (sa_cons se_int (sa_cons se_int sa_nil))) (sa_cons (se_tup (sa_cons se_int (sa_cons se_int sa_nil))) (sa_cons (se_tup (sa_cons se_int (sa_cons se_int sa_nil))) sa_nil)))) (se_call h__law_next hr (by decide) rfl (sa_cons (se_var (pv 0)) (sa_cons se_int sa_nil))))) (ss_cons (ss_asg (se_lc (own := [("k", 13)]) rfl nd (blkOk_by (own := [("k", 13)]) rfl) (si_c (si_rng1 rfl b_range (sa_cons se_int sa_nil))) (fun _ _ _ _ _ => (sg_name (pg_name (i := 13) nd rfl (Or.inl rfl)))) (fun _ _ _ _ _ => sts_nil) (fun _ _ _ _ _ => (se_call h_fraction hr (by decide) rfl (sa_cons (se_sub (se_call h__law_next hr (by decide) rfl (sa_cons (se_var (pv 0)) (sa_cons se_int sa_nil))) se_int) (sa_cons (se_add se_int (se_call h__law_next hr (by decide) rfl (sa_cons (se_var (pv 0)) (sa_cons se_int sa_nil)))) sa_nil))))) (sg_lst rfl (sgs_cons (sg_name (pg_name (i := 2) nd rfl (Or.inl rfl))) (sgs_cons (sg_name (pg_name (i := 3) nd rfl (Or.inl rfl))) (sgs_cons (sg_name (pg_name (i := 4) nd rfl (Or.inl rfl))) (sgs_cons (sg_name (pg_name (i := 5) nd rfl (Or.inl rfl))) sgs_nil)))))) (ss_cons (ss_par (ps_par (i := 6) (j := 7) rfl nd rfl rfl (by decide) rfl rfl (sa_cons (se_call h_tidy hr (by decide) rfl (sa_cons (se_var (pv 2)) (sa_cons (se_var (pv 3)) (sa_cons (se_var (pv 1)) sa_nil)))) (sa_cons (se_call h_tidy hr (by decide) rfl (sa_cons (se_var (pv 4)) (sa_cons (se_var (pv 5)) (sa_cons (se_var (pv 1)) sa_nil)))) sa_nil)) (by rfl))) (ss_cons (ss_own (i := 8) (fun _ he => ps_set (i := 8) nd rfl (Or.inl rfl) he) (sa_cons (se_tup (sa_cons (se_call h_added_root hr (by decide) rfl (sa_cons (se_var (pv 6)) (sa_cons (se_var (pv 7)) sa_nil))) (sa_cons (se_call h__law_plus hr (by decide) rfl (sa_cons (se_var (pv 2)) (sa_cons (se_var (pv 4)) sa_nil))) (sa_cons (se_call h__law_plus hr (by decide) rfl (sa_cons (se_var (pv 3)) (sa_cons (se_var (pv 5)) sa_nil))) sa_nil)))) (sa_cons (se_tup (sa_cons (se_call h_minus_root hr (by decide) rfl (sa_cons (se_var (pv 6)) (sa_cons (se_var (pv 7)) sa_nil))) (sa_cons (se_call h__law_plus hr (by decide) rfl (sa_cons (se_var (pv 2)) (sa_cons (se_call h__law_by hr (by decide) rfl (sa_cons (se_tup (sa_cons (se_neg se_int) (sa_cons se_int sa_nil))) (sa_cons (se_var (pv 4)) sa_nil))) sa_nil))) (sa_cons (se_call h__law_plus hr (by decide) rfl (sa_cons (se_var (pv 3)) (sa_cons (se_call h__law_by hr (by decide) rfl (sa_cons (se_tup (sa_cons (se_neg se_int) (sa_cons se_int sa_nil))) (sa_cons (se_var (pv 5)) sa_nil))) sa_nil))) sa_nil)))) sa_nil))) (ss_cons (ss_app (ps_expr (pe_bm PySem.F.plainAttrs_list PySem.F.slot_list_append PySem.F.type_list_append mt_append (pv 8) (sa_cons (se_tup (sa_cons (se_call h_times_root hr (by decide) rfl (sa_cons (se_var (pv 6)) (sa_cons (se_var (pv 7)) sa_nil))) (sa_cons (se_call h__law_plus hr (by decide) rfl (sa_cons (se_call h__law_by hr (by decide) rfl (sa_cons (se_var (pv 2)) (sa_cons (se_var (pv 4)) sa_nil))) (sa_cons (se_call h__law_by hr (by decide) rfl (sa_cons (se_call h__law_by hr (by decide) rfl (sa_cons (se_var (pv 3)) (sa_cons (se_var (pv 5)) sa_nil))) (sa_cons (se_var (pv 1)) sa_nil))) sa_nil))) (sa_cons (se_call h__law_plus hr (by decide) rfl (sa_cons (se_call h__law_by hr (by decide) rfl (sa_cons (se_var (pv 2)) (sa_cons (se_var (pv 5)) sa_nil))) (sa_cons (se_call h__law_by hr (by decide) rfl (sa_cons (se_var (pv 3)) (sa_cons (se_var (pv 4)) sa_nil))) sa_nil))) sa_nil)))) sa_nil)))) (ss_cons (ss_app (ps_expr (pe_bm PySem.F.plainAttrs_list PySem.F.slot_list_append PySem.F.type_list_append mt_append (pv 8) (sa_cons (se_tup (sa_cons (se_call h_by_fraction hr (by decide) rfl (sa_cons (se_var (pv 6)) (sa_cons (se_tup (sa_cons se_int (sa_cons se_int sa_nil))) sa_nil))) (sa_cons (se_call h__law_by hr (by decide) rfl (sa_cons (se_var (pv 2)) (sa_cons (se_tup (sa_cons se_int (sa_cons se_int sa_nil))) sa_nil))) (sa_cons (se_call h__law_by hr (by decide) rfl (sa_cons (se_var (pv 3)) (sa_cons (se_tup (sa_cons se_int (sa_cons se_int sa_nil))) sa_nil))) sa_nil)))) sa_nil)))) (ss_cons (ss_if (st_w (sw_or (st_ne hr (se_ix (se_var (pv 7)) se_int) (se_tup (sa_cons se_int (sa_cons se_int sa_nil)))) (sw_or1 (st_ne hr (se_ix (se_var (pv 7)) se_int) (se_tup (sa_cons se_int (sa_cons se_int sa_nil))))))) (ss_cons (ss_set (i := 9) nd rfl (Or.inl rfl) (se_call h_times_root hr (by decide) rfl (sa_cons (se_call h_over_root hr (by decide) rfl (sa_cons (se_var (pv 6)) (sa_cons (se_var (pv 7)) sa_nil))) (sa_cons (se_var (pv 7)) sa_nil)))) (ss_one (ss_app (ps_expr (pe_bm PySem.F.plainAttrs_list PySem.F.slot_list_append PySem.F.type_list_append mt_append (pv 8) (sa_cons (se_tup (sa_cons (se_var (pv 9)) (sa_cons (se_var (pv 2)) (sa_cons (se_var (pv 3)) sa_nil)))) sa_nil)))))) ss_nil) (ss_freeze (i := 8) (ss_cons (ss_for PassesOwn.never rfl (si_list (se_var (pv 8))) (sg_tup rfl (sgs_cons (sg_name (pg_name (i := 10) nd rfl (Or.inl rfl))) (sgs_cons (sg_name (pg_name (i := 11) nd rfl (Or.inl rfl))) (sgs_cons (sg_name (pg_name (i := 12) nd rfl (Or.inl rfl))) sgs_nil)))) (ss_one (ss_if (st_w (sw_or (st_notB (se_call h_is_root hr (by decide) rfl (sa_cons (se_var (pv 10)) sa_nil)) se_bl) (sw_or (st_not (st_val (se_call h__law_same hr (by decide) rfl (sa_cons (se_ix (se_var (pv 10)) se_int) (sa_cons (se_var (pv 11)) sa_nil))))) (sw_or (st_not (st_val (se_call h__law_same hr (by decide) rfl (sa_cons (se_ix (se_var (pv 10)) se_int) (sa_cons (se_var (pv 12)) sa_nil))))) (sw_or1 (st_w (sw_and (st_ne hr (se_ix (se_var (pv 12)) se_int) se_int) (sw_and1 (st_ne hr (se_ix (se_var (pv 10)) se_int) (se_var (pv 1))))))))))) (ss_one (ss_ret se_bl)) ss_nil))) (ss_cons (ss_if (st_w (sw_or (st_ne hr (se_call h_sign_of_root hr (by decide) rfl (sa_cons (se_call h_minus_root hr (by decide) rfl (sa_cons (se_call h_times_root hr (by decide) rfl (sa_cons (se_call h_root_of hr (by decide) rfl (sa_cons (se_var (pv 1)) sa_nil)) (sa_cons (se_call h_root_of hr (by decide) rfl (sa_cons (se_var (pv 1)) sa_nil)) sa_nil))) (sa_cons (se_call h_plain hr (by decide) rfl (sa_cons (se_var (pv 1)) sa_nil)) sa_nil))) sa_nil)) se_int) (sw_or1 (st_ne hr (se_call h_root_of hr (by decide) rfl (sa_cons (se_tup (sa_cons se_int (sa_cons se_int sa_nil))) sa_nil)) (se_call h_plain hr (by decide) rfl (sa_cons (se_tup (sa_cons se_int (sa_cons se_int sa_nil))) sa_nil)))))) (ss_one (ss_ret se_bl)) ss_nil) (ss_one (ss_ret (se_eq hr (se_lc (own := [("thing", 14)]) rfl nd (blkOk_by (own := [("thing", 14)]) rfl) (si_c (si_tup (se_tup (sa_cons (se_tup (sa_cons (se_tup (sa_cons se_int (sa_cons se_int sa_nil))) (sa_cons (se_tup (sa_cons se_int (sa_cons se_int sa_nil))) (sa_cons (se_tup (sa_cons se_int (sa_cons se_int sa_nil))) sa_nil)))) (sa_cons (se_tup (sa_cons (se_tup (sa_cons se_int (sa_cons se_int sa_nil))) (sa_cons (se_tup (sa_cons se_int (sa_cons se_int sa_nil))) (sa_cons (se_tup (sa_cons se_int (sa_cons se_int sa_nil))) sa_nil)))) (sa_cons (se_tup (sa_cons (se_tup (sa_cons se_int (sa_cons se_int sa_nil))) (sa_cons (se_tup (sa_cons se_int (sa_cons se_int sa_nil))) (sa_cons (se_tup (sa_cons (se_neg se_int) (sa_cons se_int sa_nil))) sa_nil)))) (sa_cons se_non (sa_cons (se_tup (sa_cons (se_tup (sa_cons se_int (sa_cons se_int sa_nil))) sa_nil)) sa_nil)))))))) (fun _ _ _ _ _ => (sg_name (pg_name (i := 14) nd rfl (Or.inl rfl)))) (fun _ _ _ _ _ => (sts_one (st_notB (se_call h_is_root hr (by decide) rfl (sa_cons (se_var (pv 14)) sa_nil)) se_bl))) (fun _ _ _ _ _ => (se_var (pv 14)))) (se_lst sa_nil))))))))))))))
theorem ok__law_root {f : Addr} {fd : FuncData} (F : Fun K "_law_root" "_law_root" s__law_root f fd) (gm : mg "_law_root" = some (.ref f)) (b_range : mg "range" = none) (h__law_next : Df P w K mg base "_law_next" 2 1 F__law_next) (h_fraction : Df P w K mg base "fraction" 2 2 F_fraction) (h_tidy : Df P w K mg base "tidy" 3 4 F_tidy) : Df P w K mg base "_law_root" 1 5 F__law_root := by
  have nd : (["w", "rows", "k"] : List Str).Nodup := by decide +kernel
  refine df_of (N := ["w", "rows", "k"]) (ps := ["w"]) F ⟨rfl, rfl, rfl, nd, rfl, by decide +kernel, by decide +kernel⟩ rfl rfl gm (F.binds (ps := ["w"]) fun _ _ _ _ _ _ us hl => match us, hl with | [_], _ => rfl) fun cdv A outer s0 H E aw hr => ?_
  exact (ss_cons (ss_lc (own := [("k", 2)]) (i := 1) rfl nd (blkOk_by (own := [("k", 2)]) rfl) rfl rfl (sw_true rfl rfl rfl (by decide +kernel)) (si_c (si_rng1 rfl b_range (sa_cons se_int sa_nil))) (fun _ _ _ _ _ => (sg_name (pg_name (i := 2) nd rfl (Or.inl rfl)))) (fun _ _ _ _ _ => sts_nil) (fun _ _ _ _ _ => (se_call h_fraction hr (by decide) rfl (sa_cons (se_sub (se_call h__law_next hr (by decide) rfl (sa_cons (se_var (pv 0)) (sa_cons se_int sa_nil))) se_int) (sa_cons (se_add se_int (se_call h__law_next hr (by decide) rfl (sa_cons (se_var (pv 0)) (sa_cons se_int sa_nil)))) sa_nil))))) (ss_one (ss_ret (se_call h_tidy hr (by decide) rfl (sa_cons (se_ix (se_var (pv 1)) se_int) (sa_cons (se_ix (se_var (pv 1)) se_int) (sa_cons (se_ix (se_tup (sa_cons (se_tup (sa_cons se_int (sa_cons se_int sa_nil))) (sa_cons (se_tup (sa_cons se_int (sa_cons se_int sa_nil))) (sa_cons (se_tup (sa_cons se_int (sa_cons se_int sa_nil))) (sa_cons (se_tup (sa_cons se_int (sa_cons se_int sa_nil))) (sa_cons (se_tup (sa_cons se_int (sa_cons se_int sa_nil))) (sa_cons (se_tup (sa_cons se_int (sa_cons se_int sa_nil))) sa_nil))))))) (se_call h__law_next hr (by decide) rfl (sa_cons (se_var (pv 0)) (sa_cons se_int sa_nil)))) sa_nil)))))))
theorem ok_bound_of {f : Addr} {fd : FuncData} (F : Fun K "bound_of" "bound_of" s_bound_of f fd) (gm : mg "bound_of" = some (.ref f)) (b_abs : mg "abs" = none) (h_square : Df P w K mg base "square" 1 1 F_square) (h_times : Df P w K mg base "times" 2 3 F_times) : Df P w K mg base "bound_of" 1 4 F_bound_of := by
  have nd : (["one", "a", "b", "c", "parts"] : List Str).Nodup := by decide +kernel
  refine df_of (N := ["one", "a", "b", "c", "parts"]) (ps := ["one"]) F ⟨rfl, rfl, rfl, nd, rfl, by decide +kernel, by decide +kernel⟩ rfl rfl gm (F.binds (ps := ["one"]) fun _ _ _ _ _ _ us hl => match us, hl with | [_], _ => rfl) fun cdv A outer s0 H E aw hr => ?_
  exact (ss_cons (ss_asg (se_var (pv 0)) (sg_tup rfl (sgs_cons (sg_name (pg_name (i := 1) nd rfl (Or.inl rfl))) (sgs_cons (sg_name (pg_name (i := 2) nd rfl (Or.inl rfl))) (sgs_cons (sg_name (pg_name (i := 3) nd rfl (Or.inl rfl))) sgs_nil))))) (ss_cons (ss_set (i := 4) nd rfl (Or.inl rfl) (se_call h_times hr (by decide) rfl (sa_cons (se_call h_square hr (by decide) rfl (sa_cons (se_var (pv 2)) sa_nil)) (sa_cons (se_var (pv 3)) sa_nil)))) (ss_one (ss_ret (se_add (se_add (se_div (se_abs rfl b_abs (sa_cons (se_ix (se_var (pv 1)) se_int) sa_nil)) (se_ix (se_var (pv 1)) se_int)) (se_div (se_ix (se_var (pv 4)) se_int) (se_ix (se_var (pv 4)) se_int))) se_int)))))
theorem ok_floor_of {f : Addr} {fd : FuncData} (F : Fun K "floor_of" "floor_of" s_floor_of f fd) (gm : mg "floor_of" = some (.ref f)) (h_bound_of : Df P w K mg base "bound_of" 1 4 F_bound_of) (h_whole : Df P w K mg base "whole" 1 1 F_whole) (h_plain : Df P w K mg base "plain" 1 1 F_plain) (h_compare : Df P w K mg base "compare" 2 6 F_compare) : Df P w K mg base "floor_of" 1 7 F_floor_of := by
  have nd : (["one", "low", "high", "middle"] : List Str).Nodup := by decide +kernel
  refine df_of (N := ["one", "low", "high", "middle"]) (ps := ["one"]) F ⟨rfl, rfl, rfl, nd, rfl, by decide +kernel, by decide +kernel⟩ rfl rfl gm (F.binds (ps := ["one"]) fun _ _ _ _ _ _ us hl => match us, hl with | [_], _ => rfl) fun cdv A outer s0 H E aw hr => ?_
  exact (ss_cons (ss_par (ps_par (i := 1) (j := 2) rfl nd rfl rfl (by decide) rfl rfl (sa_cons (se_neg (se_call h_bound_of hr (by decide) rfl (sa_cons (se_var (pv 0)) sa_nil))) (sa_cons (se_call h_bound_of hr (by decide) rfl (sa_cons (se_var (pv 0)) sa_nil)) sa_nil)) (by rfl))) (ss_cons (ss_while PassesOwn.never (st_gt (se_sub (se_var (pv 2)) (se_var (pv 1))) se_int) (ss_cons (ss_set (i := 3) nd rfl (Or.inl rfl) (se_div (se_add (se_var (pv 1)) (se_var (pv 2))) se_int)) (ss_one (ss_if (st_le (se_call h_compare hr (by decide) rfl (sa_cons (se_call h_plain hr (by decide) rfl (sa_cons (se_call h_whole hr (by decide) rfl (sa_cons (se_var (pv 3)) sa_nil)) sa_nil)) (sa_cons (se_var (pv 0)) sa_nil))) se_int) (ss_one (ss_set (i := 1) nd rfl (Or.inl rfl) (se_var (pv 3)))) (ss_one (ss_set (i := 2) nd rfl (Or.inl rfl) (se_var (pv 3)))))))) (ss_one (ss_ret (se_var (pv 1))))))
theorem ok_rounded {f : Addr} {fd : FuncData} (F : Fun K "rounded" "rounded" s_rounded f fd) (gm : mg "rounded" = some (.ref f)) (b_range : mg "range" = none) (h_whole : Df P w K mg base "whole" 1 1 F_whole) (h_by_fraction : Df P w K mg base "by_fraction" 2 5 F_by_fraction) (h_fraction : Df P w K mg base "fraction" 2 2 F_fraction) (h_plain : Df P w K mg base "plain" 1 1 F_plain) (h_minus_root : Df P w K mg base "minus_root" 2 6 F_minus_root) (h_floor_of : Df P w K mg base "floor_of" 1 7 F_floor_of) : Df P w K mg base "rounded" 2 8 F_rounded := by
  have nd : (["one", "places", "scale", "_"] : List Str).Nodup := by decide +kernel
  refine df_of (N := ["one", "places", "scale", "_"]) (ps := ["one", "places"]) F ⟨rfl, rfl, rfl, nd, rfl, by decide +kernel, by decide +kernel⟩ rfl rfl gm (F.binds (ps := ["one", "places"]) fun _ _ _ _ _ _ us hl => match us, hl with | [_, _], _ => rfl) fun cdv A outer s0 H E aw hr => ?_
  exact (ss_cons (ss_set (i := 2) nd rfl (Or.inl rfl) se_int) (ss_cons (ss_for PassesOwn.never rfl (si_rng1 rfl b_range (sa_cons (se_var (pv 1)) sa_nil)) (sg_name (pg_name (i := 3) nd rfl (Or.inl rfl))) (ss_one (ss_aug (i := 2) iop_mulW ok_mul nd rfl (Or.inl rfl) se_int))) (ss_one (ss_ret (se_call h_floor_of hr (by decide) rfl (sa_cons (se_call h_minus_root hr (by decide) rfl (sa_cons (se_call h_by_fraction hr (by decide) rfl (sa_cons (se_var (pv 0)) (sa_cons (se_call h_whole hr (by decide) rfl (sa_cons (se_var (pv 2)) sa_nil)) sa_nil))) (sa_cons (se_call h_plain hr (by decide) rfl (sa_cons (se_call h_fraction hr (by decide) rfl (sa_cons (se_neg se_int) (sa_cons se_int sa_nil))) sa_nil)) sa_nil))) sa_nil))))))
theorem ok_digits_of {f : Addr} {fd : FuncData} (F : Fun K "digits_of" "digits_of" s_digits_of f fd) (gm : mg "digits_of" = some (.ref f)) (b_str : mg "str" = none) (b_abs : mg "abs" = none) (b_len : mg "len" = none) (h_rounded : Df P w K mg base "rounded" 2 8 F_rounded) : Df P w K mg base "digits_of" 2 9 F_digits_of := by
  have nd : (["one", "places", "number", "text", "front"] : List Str).Nodup := by decide +kernel
  refine df_of (N := ["one", "places", "number", "text", "front"]) (ps := ["one", "places"]) F ⟨rfl, rfl, rfl, nd, rfl, by decide +kernel, by decide +kernel⟩ rfl rfl gm (F.binds (ps := ["one", "places"]) fun _ _ _ _ _ _ us hl => match us, hl with | [_, _], _ => rfl) fun cdv A outer s0 H E aw hr => ?_
  exact (ss_cons (ss_set (i := 2) nd rfl (Or.inl rfl) (se_call h_rounded hr (by decide) rfl (sa_cons (se_var (pv 0)) (sa_cons (se_var (pv 1)) sa_nil)))) (ss_cons (ss_set (i := 3) nd rfl (Or.inl rfl) (se_strc rfl b_str (sa_cons (se_abs rfl b_abs (sa_cons (se_var (pv 2)) sa_nil)) sa_nil))) (ss_cons (ss_set (i := 3) nd rfl (Or.inl rfl) (se_catS (se_mulS se_str (se_sub (se_add (se_var (pv 1)) se_int) (se_len rfl b_len (sa_cons (se_var (pv 3)) sa_nil)))) (se_var (pv 3)))) (ss_cons (ss_set (i := 4) nd rfl (Or.inl rfl) (se_if (st_lt (se_var (pv 2)) se_int) se_str se_str)) (ss_one (ss_ret (se_catS (se_catS (se_var (pv 4)) (se_sl (se_var (pv 3)) so_none (so_some (se_sub (se_len rfl b_len (sa_cons (se_var (pv 3)) sa_nil)) (se_var (pv 1)))))) (se_if (st_gt (se_var (pv 1)) se_int) (se_catS se_str (se_sl (se_var (pv 3)) (so_some (se_sub (se_len rfl b_len (sa_cons (se_var (pv 3)) sa_nil)) (se_var (pv 1)))) so_none)) se_str))))))))
theorem ok_near_by {f : Addr} {fd : FuncData} (F : Fun K "near_by" "near_by" s_near_by f fd) (gm : mg "near_by" = some (.ref f)) (h_whole : Df P w K mg base "whole" 1 1 F_whole) (h_by_fraction : Df P w K mg base "by_fraction" 2 5 F_by_fraction) (h_floor_of : Df P w K mg base "floor_of" 1 7 F_floor_of) (h_fraction : Df P w K mg base "fraction" 2 2 F_fraction) : Df P w K mg base "near_by" 2 8 F_near_by := by
  have nd : (["one", "lower"] : List Str).Nodup := by decide +kernel
  refine df_of (N := ["one", "lower"]) (ps := ["one", "lower"]) F ⟨rfl, rfl, rfl, nd, rfl, by decide +kernel, by decide +kernel⟩ rfl rfl gm (F.binds (ps := ["one", "lower"]) fun _ _ _ _ _ _ us hl => match us, hl with | [_, _], _ => rfl) fun cdv A outer s0 H E aw hr => ?_
  exact (ss_one (ss_ret (se_call h_fraction hr (by decide) rfl (sa_cons (se_call h_floor_of hr (by decide) rfl (sa_cons (se_call h_by_fraction hr (by decide) rfl (sa_cons (se_var (pv 0)) (sa_cons (se_call h_whole hr (by decide) rfl (sa_cons (se_var (pv 1)) sa_nil)) sa_nil))) sa_nil)) (sa_cons (se_var (pv 1)) sa_nil)))))
theorem ok_rank_of {f : Addr} {fd : FuncData} (F : Fun K "rank_of" "rank_of" s_rank_of f fd) (gm : mg "rank_of" = some (.ref f)) (h_compare : Df P w K mg base "compare" 2 6 F_compare) : Df P w K mg base "rank_of" 2 7 F_rank_of := by
  have nd : (["rows", "one", "sides", "own"] : List Str).Nodup := by decide +kernel
  refine df_of (N := ["rows", "one", "sides", "own"]) (ps := ["rows", "one"]) F ⟨rfl, rfl, rfl, nd, rfl, by decide +kernel, by decide +kernel⟩ rfl rfl gm (F.binds (ps := ["rows", "one"]) fun _ _ _ _ _ _ us hl => match us, hl with | [_, _], _ => rfl) fun cdv A outer s0 H E aw hr => ?_
  exact (ss_cons (ss_lc (own := [("own", 3)]) (i := 2) rfl nd (blkOk_by (own := [("own", 3)]) rfl) rfl rfl (sw_true rfl rfl rfl (by decide +kernel)) (si_c (si_list (se_var (pv 0)))) (fun _ _ _ _ _ => (sg_name (pg_name (i := 3) nd rfl (Or.inl rfl)))) (fun _ _ _ _ _ => sts_nil) (fun _ _ _ _ _ => (se_call h_compare hr (by decide) rfl (sa_cons (se_var (pv 3)) (sa_cons (se_var (pv 1)) sa_nil))))) (ss_one (ss_ret (se_tup (sa_cons (se_count (se_var (pv 2)) (sa_cons (se_neg se_int) sa_nil)) (sa_cons (se_count (se_var (pv 2)) (sa_cons se_int sa_nil)) sa_nil))))))
theorem ok__law_gap {f : Addr} {fd : FuncData} (F : Fun K "_law_gap" "_law_gap" s__law_gap f fd) (gm : mg "_law_gap" = some (.ref f)) (h__law_by : Df P w K mg base "_law_by" 2 1 F__law_by) (h__law_plus : Df P w K mg base "_law_plus" 2 1 F__law_plus) (h__law_rooted : Df P w K mg base "_law_rooted" 3 2 F__law_rooted) : Df P w K mg base "_law_gap" 2 3 F__law_gap := by
  have nd : (["one", "other", "a", "b", "c", "d", "e", "f", "first", "left", "right", "p"] : List Str).Nodup := by decide +kernel
  refine df_of (N := ["one", "other", "a", "b", "c", "d", "e", "f", "first", "left", "right", "p"]) (ps := ["one", "other"]) F ⟨rfl, rfl, rfl, nd, rfl, by decide +kernel, by decide +kernel⟩ rfl rfl gm (F.binds (ps := ["one", "other"]) fun _ _ _ _ _ _ us hl => match us, hl with | [_, _], _ => rfl) fun cdv A outer s0 H E aw hr => ?_
  exact (ss_cons (ss_asg (se_var (pv 0)) (sg_tup rfl (sgs_cons (sg_name (pg_name (i := 2) nd rfl (Or.inl rfl))) (sgs_cons (sg_name (pg_name (i := 3) nd rfl (Or.inl rfl))) (sgs_cons (sg_name (pg_name (i := 4) nd rfl (Or.inl rfl))) sgs_nil))))) (ss_cons (ss_asg (se_var (pv 1)) (sg_tup rfl (sgs_cons (sg_name (pg_name (i := 5) nd rfl (Or.inl rfl))) (sgs_cons (sg_name (pg_name (i := 6) nd rfl (Or.inl rfl))) (sgs_cons (sg_name (pg_name (i := 7) nd rfl (Or.inl rfl))) sgs_nil))))) (ss_cons (ss_set (i := 8) nd rfl (Or.inl rfl) (se_call h__law_plus hr (by decide) rfl (sa_cons (se_var (pv 2)) (sa_cons (se_call h__law_by hr (by decide) rfl (sa_cons (se_tup (sa_cons (se_neg se_int) (sa_cons se_int sa_nil))) (sa_cons (se_var (pv 5)) sa_nil))) sa_nil)))) (ss_cons (ss_set (i := 9) nd rfl (Or.inl rfl) (se_call h__law_rooted hr (by decide) rfl (sa_cons (se_var (pv 8)) (sa_cons (se_var (pv 3)) (sa_cons (se_var (pv 4)) sa_nil))))) (ss_cons (ss_set (i := 10) nd rfl (Or.inl rfl) (se_call h__law_rooted hr (by decide) rfl (sa_cons (se_tup (sa_cons se_int (sa_cons se_int sa_nil))) (sa_cons (se_var (pv 6)) (sa_cons (se_var (pv 7)) sa_nil))))) (ss_cons (ss_if (st_w (sw_or (st_ne hr (se_var (pv 9)) (se_var (pv 10))) (sw_or1 (st_eq hr (se_var (pv 9)) se_int)))) (ss_one (ss_ret (se_if (st_ne hr (se_var (pv 9)) se_int) (se_var (pv 9)) (se_sub se_int (se_var (pv 10)))))) ss_nil) (ss_cons (ss_set (i := 11) nd rfl (Or.inl rfl) (se_call h__law_plus hr (by decide) rfl (sa_cons (se_call h__law_plus hr (by decide) rfl (sa_cons (se_call h__law_by hr (by decide) rfl (sa_cons (se_var (pv 8)) (sa_cons (se_var (pv 8)) sa_nil))) (sa_cons (se_call h__law_by hr (by decide) rfl (sa_cons (se_call h__law_by hr (by decide) rfl (sa_cons (se_var (pv 3)) (sa_cons (se_var (pv 3)) sa_nil))) (sa_cons (se_var (pv 4)) sa_nil))) sa_nil))) (sa_cons (se_call h__law_by hr (by decide) rfl (sa_cons (se_tup (sa_cons (se_neg se_int) (sa_cons se_int sa_nil))) (sa_cons (se_call h__law_by hr (by decide) rfl (sa_cons (se_call h__law_by hr (by decide) rfl (sa_cons (se_var (pv 6)) (sa_cons (se_var (pv 6)) sa_nil))) (sa_cons (se_var (pv 7)) sa_nil))) sa_nil))) sa_nil)))) (ss_one (ss_ret (se_mul (se_var (pv 9)) (se_call h__law_rooted hr (by decide) rfl (sa_cons (se_var (pv 11)) (sa_cons (se_call h__law_by hr (by decide) rfl (sa_cons (se_tup (sa_cons se_int (sa_cons se_int sa_nil))) (sa_cons (se_call h__law_by hr (by decide) rfl (sa_cons (se_var (pv 8)) (sa_cons (se_var (pv 3)) sa_nil))) sa_nil))) (sa_cons (se_var (pv 4)) sa_nil))))))))))))))
theorem ok_between {f : Addr} {fd : FuncData} (F : Fun K "between" "between" s_between f fd) (gm : mg "between" = some (.ref f)) (h_whole : Df P w K mg base "whole" 1 1 F_whole) (h_by_fraction : Df P w K mg base "by_fraction" 2 5 F_by_fraction) (h_floor_of : Df P w K mg base "floor_of" 1 7 F_floor_of) (h_fraction : Df P w K mg base "fraction" 2 2 F_fraction) (h_plain : Df P w K mg base "plain" 1 1 F_plain) (h_compare : Df P w K mg base "compare" 2 6 F_compare) : Df P w K mg base "between" 2 8 F_between := by
  have nd : (["one", "other", "lower", "upper", "found"] : List Str).Nodup := by decide +kernel
  refine df_of (N := ["one", "other", "lower", "upper", "found"]) (ps := ["one", "other"]) F ⟨rfl, rfl, rfl, nd, rfl, by decide +kernel, by decide +kernel⟩ rfl rfl gm (F.binds (ps := ["one", "other"]) fun _ _ _ _ _ _ us hl => match us, hl with | [_, _], _ => rfl) fun cdv A outer s0 H E aw hr => ?_
  exact (ss_cons (ss_set (i := 2) nd rfl (Or.inl rfl) se_int) (ss_one (ss_while PassesOwn.never (st_val se_bl) (ss_cons (ss_set (i := 3) nd rfl (Or.inl rfl) (se_add (se_call h_floor_of hr (by decide) rfl (sa_cons (se_call h_by_fraction hr (by decide) rfl (sa_cons (se_var (pv 0)) (sa_cons (se_call h_whole hr (by decide) rfl (sa_cons (se_var (pv 2)) sa_nil)) sa_nil))) sa_nil)) se_int)) (ss_cons (ss_set (i := 4) nd rfl (Or.inl rfl) (se_call h_fraction hr (by decide) rfl (sa_cons (se_var (pv 3)) (sa_cons (se_var (pv 2)) sa_nil)))) (ss_cons (ss_if (st_lt (se_call h_compare hr (by decide) rfl (sa_cons (se_call h_plain hr (by decide) rfl (sa_cons (se_var (pv 4)) sa_nil)) (sa_cons (se_var (pv 1)) sa_nil))) se_int) (ss_one (ss_ret (se_var (pv 4)))) ss_nil) (ss_one (ss_aug (i := 2) iop_mulW ok_mul nd rfl (Or.inl rfl) se_int))))))))
theorem ok_least_of {f : Addr} {fd : FuncData} (F : Fun K "least_of" "least_of" s_least_of f fd) (gm : mg "least_of" = some (.ref f)) (h_compare : Df P w K mg base "compare" 2 6 F_compare) : Df P w K mg base "least_of" 1 7 F_least_of := by
  have nd : (["rows", "best", "one"] : List Str).Nodup := by decide +kernel
  refine df_of (N := ["rows", "best", "one"]) (ps := ["rows"]) F ⟨rfl, rfl, rfl, nd, rfl, by decide +kernel, by decide +kernel⟩ rfl rfl gm (F.binds (ps := ["rows"]) fun _ _ _ _ _ _ us hl => match us, hl with | [_], _ => rfl) fun cdv A outer s0 H E aw hr => ?_
  exact (ss_cons (ss_set (i := 1) nd rfl (Or.inl rfl) (se_ix (se_var (pv 0)) se_int)) (ss_cons (ss_for PassesOwn.never rfl (si_list (se_sl (se_var (pv 0)) (so_some se_int) so_none)) (sg_name (pg_name (i := 2) nd rfl (Or.inl rfl))) (ss_one (ss_set (i := 1) nd rfl (Or.inl rfl) (se_if (st_lt (se_call h_compare hr (by decide) rfl (sa_cons (se_var (pv 2)) (sa_cons (se_var (pv 1)) sa_nil))) se_int) (se_var (pv 2)) (se_var (pv 1)))))) (ss_one (ss_ret (se_var (pv 1))))))
theorem ok_greatest_of {f : Addr} {fd : FuncData} (F : Fun K "greatest_of" "greatest_of" s_greatest_of f fd) (gm : mg "greatest_of" = some (.ref f)) (h_compare : Df P w K mg base "compare" 2 6 F_compare) : Df P w K mg base "greatest_of" 1 7 F_greatest_of := by
  have nd : (["rows", "best", "one"] : List Str).Nodup := by decide +kernel
  refine df_of (N := ["rows", "best", "one"]) (ps := ["rows"]) F ⟨rfl, rfl, rfl, nd, rfl, by decide +kernel, by decide +kernel⟩ rfl rfl gm (F.binds (ps := ["rows"]) fun _ _ _ _ _ _ us hl => match us, hl with | [_], _ => rfl) fun cdv A outer s0 H E aw hr => ?_
  exact (ss_cons (ss_set (i := 1) nd rfl (Or.inl rfl) (se_ix (se_var (pv 0)) se_int)) (ss_cons (ss_for PassesOwn.never rfl (si_list (se_sl (se_var (pv 0)) (so_some se_int) so_none)) (sg_name (pg_name (i := 2) nd rfl (Or.inl rfl))) (ss_one (ss_set (i := 1) nd rfl (Or.inl rfl) (se_if (st_gt (se_call h_compare hr (by decide) rfl (sa_cons (se_var (pv 2)) (sa_cons (se_var (pv 1)) sa_nil))) se_int) (se_var (pv 2)) (se_var (pv 1)))))) (ss_one (ss_ret (se_var (pv 1))))))
theorem ok__law_roots {f : Addr} {fd : FuncData} (F : Fun K "_law_roots" "_law_roots" s__law_roots f fd) (gm : mg "_law_roots" = some (.ref f)) (b_range : mg "range" = none) (b_int : mg "int" = none) (b_abs : mg "abs" = none) (b_len : mg "len" = none) (b_sorted : mg "sorted" = none) (h__law_root : Df P w K mg base "_law_root" 1 5 F__law_root) (h_near_by : Df P w K mg base "near_by" 2 8 F_near_by) (h_plain : Df P w K mg base "plain" 1 1 F_plain) (h__law_gap : Df P w K mg base "_law_gap" 2 3 F__law_gap) (h__law_plus : Df P w K mg base "_law_plus" 2 1 F__law_plus) (h_digits_of : Df P w K mg base "digits_of" 2 9 F_digits_of) (h_fraction : Df P w K mg base "fraction" 2 2 F_fraction) (h_rounded : Df P w K mg base "rounded" 2 8 F_rounded) (h_floor_of : Df P w K mg base "floor_of" 1 7 F_floor_of) (h_compare : Df P w K mg base "compare" 2 6 F_compare) (h_is_root : Df P w K mg base "is_root" 1 3 F_is_root) (h_sign_of_root : Df P w K mg base "sign_of_root" 1 4 F_sign_of_root) (h__law_rooted : Df P w K mg base "_law_rooted" 3 2 F__law_rooted) (h_sorted_roots : Df P w K mg base "sorted_roots" 1 7 F_sorted_roots) (h_least_of : Df P w K mg base "least_of" 1 7 F_least_of) (h_greatest_of : Df P w K mg base "greatest_of" 1 7 F_greatest_of) (h_rank_of : Df P w K mg base "rank_of" 2 7 F_rank_of) (h_between : Df P w K mg base "between" 2 8 F_between) (h__law_sums : Df P w K mg base "_law_sums" 1 7 F__law_sums) : Df P w K mg base "_law_roots" 1 10 F__law_roots := by
  have nd : (["w", "rows", "one", "other", "low", "last", "text", "near", "order", "mid", "k"] : List Str).Nodup := by decide +kernel
  refine df_of (N := ["w", "rows", "one", "other", "low", "last", "text", "near", "order", "mid", "k"]) (ps := ["w"]) F ⟨rfl, rfl, rfl, nd, rfl, by decide +kernel, by decide +kernel⟩ rfl rfl gm (F.binds (ps := ["w"]) fun _ _ _ _ _ _ us hl => match us, hl with | [_], _ => rfl) fun cdv A outer s0 H E aw hr => ?_
  exact (ss_cons (ss_set (i := 1) nd rfl (Or.inr rfl) (se_lc (own := [("k", 10)]) rfl nd (blkOk_by (own := [("k", 10)]) rfl) (si_c (si_rng1 rfl b_range (sa_cons se_int sa_nil))) (fun _ _ _ _ _ => (sg_name (pg_name (i := 10) nd rfl (Or.inl rfl)))) (fun _ _ _ _ _ => sts_nil) (fun _ _ _ _ _ => (se_call h__law_root hr (by decide) rfl (sa_cons (se_var (pv 0)) sa_nil))))) (ss_cons (ss_for PassesOwn.never rfl (si_list (se_var (pv 1))) (sg_name (pg_name (i := 2) nd rfl (Or.inl rfl))) (ss_cons (ss_if (st_w (sw_or (st_notB (se_call h_is_root hr (by decide) rfl (sa_cons (se_var (pv 2)) sa_nil)) se_bl) (sw_or1 (st_ne hr (se_call h_sign_of_root hr (by decide) rfl (sa_cons (se_var (pv 2)) sa_nil)) (se_call h__law_rooted hr (by decide) rfl (sa_cons (se_ix (se_var (pv 2)) se_int) (sa_cons (se_ix (se_var (pv 2)) se_int) (sa_cons (se_ix (se_var (pv 2)) se_int) sa_nil)))))))) (ss_one (ss_ret se_bl)) ss_nil) (ss_cons (ss_for PassesOwn.never rfl (si_list (se_var (pv 1))) (sg_name (pg_name (i := 3) nd rfl (Or.inl rfl))) (ss_one (ss_if (st_ne hr (se_call h_compare hr (by decide) rfl (sa_cons (se_var (pv 2)) (sa_cons (se_var (pv 3)) sa_nil))) (se_call h__law_gap hr (by decide) rfl (sa_cons (se_var (pv 2)) (sa_cons (se_var (pv 3)) sa_nil)))) (ss_one (ss_ret se_bl)) ss_nil))) (ss_cons (ss_set (i := 4) nd rfl (Or.inl rfl) (se_call h_floor_of hr (by decide) rfl (sa_cons (se_var (pv 2)) sa_nil))) (ss_cons (ss_if (st_w (sw_or (st_gt (se_call h__law_gap hr (by decide) rfl (sa_cons (se_call h_plain hr (by decide) rfl (sa_cons (se_tup (sa_cons (se_var (pv 4)) (sa_cons se_int sa_nil))) sa_nil)) (sa_cons (se_var (pv 2)) sa_nil))) se_int) (sw_or1 (st_le (se_call h__law_gap hr (by decide) rfl (sa_cons (se_call h_plain hr (by decide) rfl (sa_cons (se_tup (sa_cons (se_add (se_var (pv 4)) se_int) (sa_cons se_int sa_nil))) sa_nil)) (sa_cons (se_var (pv 2)) sa_nil))) se_int)))) (ss_one (ss_ret se_bl)) ss_nil) (ss_cons (ss_set (i := 5) nd rfl (Or.inl rfl) (se_call h_rounded hr (by decide) rfl (sa_cons (se_var (pv 2)) (sa_cons se_int sa_nil)))) (ss_cons (ss_if (st_w (sw_or (st_gt (se_call h__law_gap hr (by decide) rfl (sa_cons (se_call h_plain hr (by decide) rfl (sa_cons (se_call h_fraction hr (by decide) rfl (sa_cons (se_sub (se_mul se_int (se_var (pv 5))) se_int) (sa_cons se_int sa_nil))) sa_nil)) (sa_cons (se_var (pv 2)) sa_nil))) se_int) (sw_or1 (st_le (se_call h__law_gap hr (by decide) rfl (sa_cons (se_call h_plain hr (by decide) rfl (sa_cons (se_call h_fraction hr (by decide) rfl (sa_cons (se_add (se_mul se_int (se_var (pv 5))) se_int) (sa_cons se_int sa_nil))) sa_nil)) (sa_cons (se_var (pv 2)) sa_nil))) se_int)))) (ss_one (ss_ret se_bl)) ss_nil) (ss_gcall (i := 6) h_digits_of hr (by decide) rfl (se_var (pv 2)) nd rfl (Or.inl rfl) (ssst_cons (sst_if (stt_or (stt_ne (room64 hr) (set_intc rfl b_int (set_replT (set_repl (se_var (pv 6))))) (se_abs rfl b_abs (sa_cons (se_var (pv 5)) sa_nil))) (sw_or (st_ne hr (se_eq hr (se_ixS (se_var (pv 6)) se_int) se_str) (se_lt (se_var (pv 5)) se_int)) (sw_or1 (st_ne hr (se_len rfl b_len (sa_cons (se_ix (se_split (se_var (pv 6))) se_int) sa_nil)) se_int)))) (ss_one (ss_ret se_bl)) ss_nil) (ssst_of (ss_cons (ss_set (i := 7) nd rfl (Or.inl rfl) (se_call h_near_by hr (by decide) rfl (sa_cons (se_var (pv 2)) (sa_cons se_int sa_nil)))) (ss_one (ss_if (st_w (sw_or (st_gt (se_call h__law_gap hr (by decide) rfl (sa_cons (se_call h_plain hr (by decide) rfl (sa_cons (se_var (pv 7)) sa_nil)) (sa_cons (se_var (pv 2)) sa_nil))) se_int) (sw_or1 (st_le (se_call h__law_gap hr (by decide) rfl (sa_cons (se_call h_plain hr (by decide) rfl (sa_cons (se_call h__law_plus hr (by decide) rfl (sa_cons (se_var (pv 7)) (sa_cons (se_tup (sa_cons se_int (sa_cons se_int sa_nil))) sa_nil))) sa_nil)) (sa_cons (se_var (pv 2)) sa_nil))) se_int)))) (ss_one (ss_ret se_bl)) ss_nil))))))))))))) (ss_cons (ss_set (i := 8) nd rfl (Or.inr rfl) (se_call h_sorted_roots hr (by decide) rfl (sa_cons (se_var (pv 1)) sa_nil))) (ss_cons (ss_if (st_w (sw_or (st_ne hr (se_sortedc hr rfl b_sorted (sa_cons (se_var (pv 8)) sa_nil)) (se_sortedc hr rfl b_sorted (sa_cons (se_var (pv 1)) sa_nil))) (sw_or1 (st_ne hr (se_lc (own := [("k", 10)]) rfl nd (blkOk_by (own := [("k", 10)]) rfl) (si_c (si_rng1 rfl b_range (sa_cons se_int sa_nil))) (fun _ _ _ _ _ => (sg_name (pg_name (i := 10) nd rfl (Or.inl rfl)))) (fun _ _ _ _ _ => (sts_one (st_gt (se_call h__law_gap hr (by decide) rfl (sa_cons (se_ix (se_var (pv 8)) (se_var (pv 10))) (sa_cons (se_ix (se_var (pv 8)) (se_add (se_var (pv 10)) se_int)) sa_nil))) se_int))) (fun _ _ _ _ _ => (se_var (pv 10)))) (se_lst sa_nil))))) (ss_one (ss_ret se_bl)) ss_nil) (ss_cons (ss_if (st_ne hr (se_lc (own := [("one", 2)]) rfl nd (blkOk_by (own := [("one", 2)]) rfl) (si_c (si_list (se_var (pv 1)))) (fun _ _ _ _ _ => (sg_name (pg_name (i := 2) nd rfl (Or.inl rfl)))) (fun _ _ _ _ _ => (sts_one (st_w (sw_or (st_gt (se_call h__law_gap hr (by decide) rfl (sa_cons (se_call h_least_of hr (by decide) rfl (sa_cons (se_var (pv 1)) sa_nil)) (sa_cons (se_var (pv 2)) sa_nil))) se_int) (sw_or1 (st_lt (se_call h__law_gap hr (by decide) rfl (sa_cons (se_call h_greatest_of hr (by decide) rfl (sa_cons (se_var (pv 1)) sa_nil)) (sa_cons (se_var (pv 2)) sa_nil))) se_int)))))) (fun _ _ _ _ _ => (se_var (pv 2)))) (se_lst sa_nil)) (ss_one (ss_ret se_bl)) ss_nil) (ss_cons (ss_if (st_ne hr (se_call h_rank_of hr (by decide) rfl (sa_cons (se_var (pv 1)) (sa_cons (se_ix (se_var (pv 1)) se_int) sa_nil))) (se_tup (sa_cons (se_len rfl b_len (sa_cons (se_lc (own := [("one", 2)]) rfl nd (blkOk_by (own := [("one", 2)]) rfl) (si_c (si_list (se_var (pv 1)))) (fun _ _ _ _ _ => (sg_name (pg_name (i := 2) nd rfl (Or.inl rfl)))) (fun _ _ _ _ _ => (sts_one (st_lt (se_call h__law_gap hr (by decide) rfl (sa_cons (se_var (pv 2)) (sa_cons (se_ix (se_var (pv 1)) se_int) sa_nil))) se_int))) (fun _ _ _ _ _ => (se_var (pv 2)))) sa_nil)) (sa_cons (se_len rfl b_len (sa_cons (se_lc (own := [("one", 2)]) rfl nd (blkOk_by (own := [("one", 2)]) rfl) (si_c (si_list (se_var (pv 1)))) (fun _ _ _ _ _ => (sg_name (pg_name (i := 2) nd rfl (Or.inl rfl)))) (fun _ _ _ _ _ => (sts_one (st_eq hr (se_call h__law_gap hr (by decide) rfl (sa_cons (se_var (pv 2)) (sa_cons (se_ix (se_var (pv 1)) se_int) sa_nil))) se_int))) (fun _ _ _ _ _ => (se_var (pv 2)))) sa_nil)) sa_nil)))) (ss_one (ss_ret se_bl)) ss_nil) (ss_cons (ss_if (st_lt (se_call h__law_gap hr (by decide) rfl (sa_cons (se_ix (se_var (pv 8)) se_int) (sa_cons (se_ix (se_var (pv 8)) (se_neg se_int)) sa_nil))) se_int) (ss_cons (ss_set (i := 9) nd rfl (Or.inl rfl) (se_call h_between hr (by decide) rfl (sa_cons (se_ix (se_var (pv 8)) se_int) (sa_cons (se_ix (se_var (pv 8)) (se_neg se_int)) sa_nil)))) (ss_one (ss_if (st_w (sw_or (st_ge (se_call h__law_gap hr (by decide) rfl (sa_cons (se_ix (se_var (pv 8)) se_int) (sa_cons (se_call h_plain hr (by decide) rfl (sa_cons (se_var (pv 9)) sa_nil)) sa_nil))) se_int) (sw_or1 (st_ge (se_call h__law_gap hr (by decide) rfl (sa_cons (se_call h_plain hr (by decide) rfl (sa_cons (se_var (pv 9)) sa_nil)) (sa_cons (se_ix (se_var (pv 8)) (se_neg se_int)) sa_nil))) se_int)))) (ss_one (ss_ret se_bl)) ss_nil))) ss_nil) (ss_one (ss_ret (se_call h__law_sums hr (by decide) rfl (sa_cons (se_var (pv 0)) sa_nil)))))))))))
theorem ok__law_spot {f : Addr} {fd : FuncData} (F : Fun K "_law_spot" "_law_spot" s__law_spot f fd) (gm : mg "_law_spot" = some (.ref f)) (h__law_next : Df P w K mg base "_law_next" 2 1 F__law_next) : Df P w K mg base "_law_spot" 1 2 F__law_spot := by
  have nd : (["w"] : List Str).Nodup := by decide +kernel
  refine df_of (N := ["w"]) (ps := ["w"]) F ⟨rfl, rfl, rfl, nd, rfl, by decide +kernel, by decide +kernel⟩ rfl rfl gm (F.binds (ps := ["w"]) fun _ _ _ _ _ _ us hl => match us, hl with | [_], _ => rfl) fun cdv A outer s0 H E aw hr => ?_
  exact (ss_one (ss_ret (se_tup (sa_cons (se_tup (sa_cons (se_tup (sa_cons (se_sub (se_call h__law_next hr (by decide) rfl (sa_cons (se_var (pv 0)) (sa_cons se_int sa_nil))) se_int) (sa_cons se_int sa_nil))) (sa_cons (se_tup (sa_cons se_int (sa_cons se_int sa_nil))) (sa_cons (se_tup (sa_cons se_int (sa_cons se_int sa_nil))) sa_nil)))) (sa_cons (se_tup (sa_cons (se_tup (sa_cons (se_sub (se_call h__law_next hr (by decide) rfl (sa_cons (se_var (pv 0)) (sa_cons se_int sa_nil))) se_int) (sa_cons se_int sa_nil))) (sa_cons (se_tup (sa_cons se_int (sa_cons se_int sa_nil))) (sa_cons (se_tup (sa_cons se_int (sa_cons se_int sa_nil))) sa_nil)))) sa_nil)))))
theorem ok_compare_points {f : Addr} {fd : FuncData} (F : Fun K "compare_points" "compare_points" s_compare_points f fd) (gm : mg "compare_points" = some (.ref f)) (h_compare : Df P w K mg base "compare" 2 6 F_compare) : Df P w K mg base "compare_points" 2 7 F_compare_points := by
  have nd : (["one", "other", "found"] : List Str).Nodup := by decide +kernel
  refine df_of (N := ["one", "other", "found"]) (ps := ["one", "other"]) F ⟨rfl, rfl, rfl, nd, rfl, by decide +kernel, by decide +kernel⟩ rfl rfl gm (F.binds (ps := ["one", "other"]) fun _ _ _ _ _ _ us hl => match us, hl with | [_, _], _ => rfl) fun cdv A outer s0 H E aw hr => ?_
  exact (ss_cons (ss_set (i := 2) nd rfl (Or.inl rfl) (se_call h_compare hr (by decide) rfl (sa_cons (se_ix (se_var (pv 0)) se_int) (sa_cons (se_ix (se_var (pv 1)) se_int) sa_nil)))) (ss_one (ss_ret (se_if (st_ne hr (se_var (pv 2)) se_int) (se_var (pv 2)) (se_call h_compare hr (by decide) rfl (sa_cons (se_ix (se_var (pv 0)) se_int) (sa_cons (se_ix (se_var (pv 1)) se_int) sa_nil)))))))
theorem ok_in_order {f : Addr} {fd : FuncData} (F : Fun K "in_order" "in_order" s_in_order f fd) (gm : mg "in_order" = some (.ref f)) (b_len : mg "len" = none) (h_compare_points : Df P w K mg base "compare_points" 2 7 F_compare_points) : Df P w K mg base "in_order" 1 8 F_in_order := by
  have nd : (["points", "found", "point", "place", "own"] : List Str).Nodup := by decide +kernel
  refine df_of (N := ["points", "found", "point", "place", "own"]) (ps := ["points"]) F ⟨rfl, rfl, rfl, nd, rfl, by decide +kernel, by decide +kernel⟩ rfl rfl gm (F.binds (ps := ["points"]) fun _ _ _ _ _ _ us hl => match us, hl with | [_], _ => rfl) fun cdv A outer s0 H E aw hr => ?_
  exact (ss_cons (ss_own (i := 1) (fun _ he => ps_set (i := 1) nd rfl (Or.inl rfl) he) sa_nil) (ss_cons (ss_for PassesOwn.never rfl (si_list (se_var (pv 0))) (sg_name (pg_name (i := 2) nd rfl (Or.inr rfl))) (ss_cons (ss_set (i := 3) nd rfl (Or.inl rfl) (se_len rfl b_len (sa_cons (se_lc (own := [("own", 4)]) rfl nd (blkOk_by (own := [("own", 4)]) rfl) (si_own (pv 1)) (fun _ _ _ _ _ => (sg_name (pg_name (i := 4) nd rfl (Or.inl rfl)))) (fun _ _ _ _ _ => (sts_one (st_lt (se_call h_compare_points hr (by decide) rfl (sa_cons (se_var (pv 4)) (sa_cons (se_var (pv 2)) sa_nil))) se_int))) (fun _ _ _ _ _ => (se_var (pv 4)))) sa_nil))) (ss_one (ss_if (st_w (sw_or (st_eq hr (se_var (pv 3)) (se_lenO rfl b_len (pv 1))) (sw_or1 (st_ne hr (se_call h_compare_points hr (by decide) rfl (sa_cons (se_ixO (pv 1) (se_var (pv 3))) (sa_cons (se_var (pv 2)) sa_nil))) se_int)))) (ss_one (ss_ins (ps_expr (pe_bm PySem.F.plainAttrs_list PySem.F.slot_list_insert PySem.F.type_list_insert mt_insert (pv 1) (sa_cons (se_var (pv 3)) (sa_cons (se_var (pv 2)) sa_nil)))))) ss_nil)))) (ss_freeze (i := 1) (ss_one (ss_ret (se_var (pv 1)))))))
theorem ok_of_lines {f : Addr} {fd : FuncData} (F : Fun K "of_lines" "of_lines" s_of_lines f fd) (gm : mg "of_lines" = some (.ref f)) (k_NOTHING : Kst K mg "NOTHING" c_NOTHING) (h_times : Df P w K mg base "times" 2 3 F_times) (h_minus : Df P w K mg base "minus" 2 3 F_minus) (h_over : Df P w K mg base "over" 2 3 F_over) (h_plain : Df P w K mg base "plain" 1 1 F_plain) : Df P w K mg base "of_lines" 2 4 F_of_lines := by
  have nd : (["one", "other", "_", "a", "b", "c", "d", "e", "f", "low", "x"] : List Str).Nodup := by decide +kernel
  refine df_of (N := ["one", "other", "_", "a", "b", "c", "d", "e", "f", "low", "x"]) (ps := ["one", "other"]) F ⟨rfl, rfl, rfl, nd, rfl, by decide +kernel, by decide +kernel⟩ rfl rfl gm (F.binds (ps := ["one", "other"]) fun _ _ _ _ _ _ us hl => match us, hl with | [_, _], _ => rfl) fun cdv A outer s0 H E aw hr => ?_
  exact (ss_cons (ss_asg (se_var (pv 0)) (sg_tup rfl (sgs_cons (sg_name (pg_name (i := 2) nd rfl (Or.inl rfl))) (sgs_cons (sg_name (pg_name (i := 3) nd rfl (Or.inl rfl))) (sgs_cons (sg_name (pg_name (i := 4) nd rfl (Or.inl rfl))) (sgs_cons (sg_name (pg_name (i := 5) nd rfl (Or.inl rfl))) sgs_nil)))))) (ss_cons (ss_asg (se_var (pv 1)) (sg_tup rfl (sgs_cons (sg_name (pg_name (i := 2) nd rfl (Or.inl rfl))) (sgs_cons (sg_name (pg_name (i := 6) nd rfl (Or.inl rfl))) (sgs_cons (sg_name (pg_name (i := 7) nd rfl (Or.inl rfl))) (sgs_cons (sg_name (pg_name (i := 8) nd rfl (Or.inl rfl))) sgs_nil)))))) (ss_cons (ss_set (i := 9) nd rfl (Or.inl rfl) (se_call h_minus hr (by decide) rfl (sa_cons (se_call h_times hr (by decide) rfl (sa_cons (se_var (pv 3)) (sa_cons (se_var (pv 7)) sa_nil))) (sa_cons (se_call h_times hr (by decide) rfl (sa_cons (se_var (pv 4)) (sa_cons (se_var (pv 6)) sa_nil))) sa_nil)))) (ss_cons (ss_if (st_eq hr (se_var (pv 9)) (se_glob k_NOTHING rfl)) (ss_one (ss_ret (se_lst sa_nil))) ss_nil) (ss_cons (ss_set (i := 10) nd rfl (Or.inl rfl) (se_call h_over hr (by decide) rfl (sa_cons (se_call h_minus hr (by decide) rfl (sa_cons (se_call h_times hr (by decide) rfl (sa_cons (se_var (pv 4)) (sa_cons (se_var (pv 8)) sa_nil))) (sa_cons (se_call h_times hr (by decide) rfl (sa_cons (se_var (pv 5)) (sa_cons (se_var (pv 7)) sa_nil))) sa_nil))) (sa_cons (se_var (pv 9)) sa_nil)))) (ss_one (ss_ret (se_lst (sa_cons (se_tup (sa_cons (se_call h_plain hr (by decide) rfl (sa_cons (se_var (pv 10)) sa_nil)) (sa_cons (se_call h_plain hr (by decide) rfl (sa_cons (se_call h_over hr (by decide) rfl (sa_cons (se_call h_minus hr (by decide) rfl (sa_cons (se_call h_times hr (by decide) rfl (sa_cons (se_var (pv 5)) (sa_cons (se_var (pv 6)) sa_nil))) (sa_cons (se_call h_times hr (by decide) rfl (sa_cons (se_var (pv 3)) (sa_cons (se_var (pv 8)) sa_nil))) sa_nil))) (sa_cons (se_var (pv 9)) sa_nil))) sa_nil)) sa_nil))) sa_nil)))))))))
theorem ok_is_upright {f : Addr} {fd : FuncData} (F : Fun K "is_upright" "is_upright" s_is_upright f fd) (gm : mg "is_upright" = some (.ref f)) (k_NOTHING : Kst K mg "NOTHING" c_NOTHING) : Df P w K mg base "is_upright" 1 1 F_is_upright := by
  have nd : (["curve"] : List Str).Nodup := by decide +kernel
  refine df_of (N := ["curve"]) (ps := ["curve"]) F ⟨rfl, rfl, rfl, nd, rfl, by decide +kernel, by decide +kernel⟩ rfl rfl gm (F.binds (ps := ["curve"]) fun _ _ _ _ _ _ us hl => match us, hl with | [_], _ => rfl) fun cdv A outer s0 H E aw hr => ?_
  exact (ss_one (ss_ret (se_and (se_eq hr (se_ix (se_var (pv 0)) se_int) se_int) (se_one (se_eq hr (se_ix (se_var (pv 0)) se_int) (se_glob k_NOTHING rfl))))))
theorem ok_both_roots {f : Addr} {fd : FuncData} (F : Fun K "both_roots" "both_roots" s_both_roots f fd) (gm : mg "both_roots" = some (.ref f)) (k_NOTHING : Kst K mg "NOTHING" c_NOTHING) (h_square : Df P w K mg base "square" 1 1 F_square) (h_times : Df P w K mg base "times" 2 3 F_times) (h_minus : Df P w K mg base "minus" 2 3 F_minus) (h_sign : Df P w K mg base "sign" 1 2 F_sign) (h_turned : Df P w K mg base "turned" 1 1 F_turned) (h_over : Df P w K mg base "over" 2 3 F_over) (h_plain : Df P w K mg base "plain" 1 1 F_plain) (h_tidy : Df P w K mg base "tidy" 3 4 F_tidy) : Df P w K mg base "both_roots" 3 5 F_both_roots := by
  have nd : (["a", "b", "c", "rest", "low", "middle", "part"] : List Str).Nodup := by decide +kernel
  refine df_of (N := ["a", "b", "c", "rest", "low", "middle", "part"]) (ps := ["a", "b", "c"]) F ⟨rfl, rfl, rfl, nd, rfl, by decide +kernel, by decide +kernel⟩ rfl rfl gm (F.binds (ps := ["a", "b", "c"]) fun _ _ _ _ _ _ us hl => match us, hl with | [_, _, _], _ => rfl) fun cdv A outer s0 H E aw hr => ?_
  exact (ss_cons (ss_set (i := 3) nd rfl (Or.inl rfl) (se_call h_minus hr (by decide) rfl (sa_cons (se_call h_square hr (by decide) rfl (sa_cons (se_var (pv 1)) sa_nil)) (sa_cons (se_call h_times hr (by decide) rfl (sa_cons (se_tup (sa_cons se_int (sa_cons se_int sa_nil))) (sa_cons (se_call h_times hr (by decide) rfl (sa_cons (se_var (pv 0)) (sa_cons (se_var (pv 2)) sa_nil))) sa_nil))) sa_nil)))) (ss_cons (ss_if (st_lt (se_call h_sign hr (by decide) rfl (sa_cons (se_var (pv 3)) sa_nil)) se_int) (ss_one (ss_ret (se_lst sa_nil))) ss_nil) (ss_cons (ss_set (i := 4) nd rfl (Or.inl rfl) (se_call h_times hr (by decide) rfl (sa_cons (se_tup (sa_cons se_int (sa_cons se_int sa_nil))) (sa_cons (se_var (pv 0)) sa_nil)))) (ss_cons (ss_par (ps_par (i := 5) (j := 6) rfl nd rfl rfl (by decide) rfl rfl (sa_cons (se_call h_over hr (by decide) rfl (sa_cons (se_call h_turned hr (by decide) rfl (sa_cons (se_var (pv 1)) sa_nil)) (sa_cons (se_var (pv 4)) sa_nil))) (sa_cons (se_call h_over hr (by decide) rfl (sa_cons (se_tup (sa_cons se_int (sa_cons se_int sa_nil))) (sa_cons (se_var (pv 4)) sa_nil))) sa_nil)) (by rfl))) (ss_cons (ss_if (st_eq hr (se_var (pv 3)) (se_glob k_NOTHING rfl)) (ss_one (ss_ret (se_lst (sa_cons (se_call h_plain hr (by decide) rfl (sa_cons (se_var (pv 5)) sa_nil)) sa_nil)))) ss_nil) (ss_cons (ss_set (i := 6) nd rfl (Or.inl rfl) (se_if (st_gt (se_call h_sign hr (by decide) rfl (sa_cons (se_var (pv 6)) sa_nil)) se_int) (se_var (pv 6)) (se_call h_turned hr (by decide) rfl (sa_cons (se_var (pv 6)) sa_nil)))) (ss_one (ss_ret (se_lst (sa_cons (se_call h_tidy hr (by decide) rfl (sa_cons (se_var (pv 5)) (sa_cons (se_call h_turned hr (by decide) rfl (sa_cons (se_var (pv 6)) sa_nil)) (sa_cons (se_var (pv 3)) sa_nil)))) (sa_cons (se_call h_tidy hr (by decide) rfl (sa_cons (se_var (pv 5)) (sa_cons (se_var (pv 6)) (sa_cons (se_var (pv 3)) sa_nil)))) sa_nil)))))))))))
theorem ok_of_line_and_circle {f : Addr} {fd : FuncData} (F : Fun K "of_line_and_circle" "of_line_and_circle" s_of_line_and_circle f fd) (gm : mg "of_line_and_circle" = some (.ref f)) (h_is_upright : Df P w K mg base "is_upright" 1 1 F_is_upright) (h_turned : Df P w K mg base "turned" 1 1 F_turned) (h_square : Df P w K mg base "square" 1 1 F_square) (h_times : Df P w K mg base "times" 2 3 F_times) (h_sum_of : Df P w K mg base "sum_of" 1 4 F_sum_of) (h_both_roots : Df P w K mg base "both_roots" 3 5 F_both_roots) (h_plain : Df P w K mg base "plain" 1 1 F_plain) (h_over : Df P w K mg base "over" 2 3 F_over) (h_added : Df P w K mg base "added" 2 3 F_added) (h_by_fraction : Df P w K mg base "by_fraction" 2 5 F_by_fraction) (h_added_root : Df P w K mg base "added_root" 2 5 F_added_root) : Df P w K mg base "of_line_and_circle" 2 6 F_of_line_and_circle := by
  have nd : (["one", "other", "_", "a", "b", "c", "d", "e", "f", "x", "rows", "m", "n", "first", "second", "y"] : List Str).Nodup := by decide +kernel
  refine df_of (N := ["one", "other", "_", "a", "b", "c", "d", "e", "f", "x", "rows", "m", "n", "first", "second", "y"]) (ps := ["one", "other"]) F ⟨rfl, rfl, rfl, nd, rfl, by decide +kernel, by decide +kernel⟩ rfl rfl gm (F.binds (ps := ["one", "other"]) fun _ _ _ _ _ _ us hl => match us, hl with | [_, _], _ => rfl) fun cdv A outer s0 H E aw hr => ?_
  exact (ss_cons (ss_asg (se_var (pv 0)) (sg_tup rfl (sgs_cons (sg_name (pg_name (i := 2) nd rfl (Or.inl rfl))) (sgs_cons (sg_name (pg_name (i := 3) nd rfl (Or.inl rfl))) (sgs_cons (sg_name (pg_name (i := 4) nd rfl (Or.inl rfl))) (sgs_cons (sg_name (pg_name (i := 5) nd rfl (Or.inl rfl))) sgs_nil)))))) (ss_cons (ss_asg (se_var (pv 1)) (sg_tup rfl (sgs_cons (sg_name (pg_name (i := 2) nd rfl (Or.inl rfl))) (sgs_cons (sg_name (pg_name (i := 6) nd rfl (Or.inl rfl))) (sgs_cons (sg_name (pg_name (i := 7) nd rfl (Or.inl rfl))) (sgs_cons (sg_name (pg_name (i := 8) nd rfl (Or.inl rfl))) sgs_nil)))))) (ss_cons (ss_if (st_val (se_call h_is_upright hr (by decide) rfl (sa_cons (se_var (pv 0)) sa_nil))) (ss_cons (ss_set (i := 9) nd rfl (Or.inr rfl) (se_call h_turned hr (by decide) rfl (sa_cons (se_var (pv 5)) sa_nil))) (ss_cons (ss_set (i := 10) nd rfl (Or.inl rfl) (se_call h_both_roots hr (by decide) rfl (sa_cons (se_tup (sa_cons se_int (sa_cons se_int sa_nil))) (sa_cons (se_var (pv 7)) (sa_cons (se_call h_sum_of hr (by decide) rfl (sa_cons (se_lst (sa_cons (se_call h_square hr (by decide) rfl (sa_cons (se_var (pv 9)) sa_nil)) (sa_cons (se_call h_times hr (by decide) rfl (sa_cons (se_var (pv 6)) (sa_cons (se_var (pv 9)) sa_nil))) (sa_cons (se_var (pv 8)) sa_nil)))) sa_nil)) sa_nil))))) (ss_one (ss_ret (se_lc (own := [("y", 15)]) rfl nd (blkOk_by (own := [("y", 15)]) rfl) (si_c (si_list (se_var (pv 10)))) (fun _ _ _ _ _ => (sg_name (pg_name (i := 15) nd rfl (Or.inl rfl)))) (fun _ _ _ _ _ => sts_nil) (fun _ _ _ _ _ => (se_tup (sa_cons (se_call h_plain hr (by decide) rfl (sa_cons (se_var (pv 9)) sa_nil)) (sa_cons (se_var (pv 15)) sa_nil))))))))) ss_nil) (ss_cons (ss_asg (se_tup (sa_cons (se_call h_over hr (by decide) rfl (sa_cons (se_call h_turned hr (by decide) rfl (sa_cons (se_var (pv 3)) sa_nil)) (sa_cons (se_var (pv 4)) sa_nil))) (sa_cons (se_call h_over hr (by decide) rfl (sa_cons (se_call h_turned hr (by decide) rfl (sa_cons (se_var (pv 5)) sa_nil)) (sa_cons (se_var (pv 4)) sa_nil))) sa_nil))) (sg_tup rfl (sgs_cons (sg_name (pg_name (i := 11) nd rfl (Or.inr rfl))) (sgs_cons (sg_name (pg_name (i := 12) nd rfl (Or.inr rfl))) sgs_nil)))) (ss_cons (ss_set (i := 13) nd rfl (Or.inl rfl) (se_call h_added hr (by decide) rfl (sa_cons (se_tup (sa_cons se_int (sa_cons se_int sa_nil))) (sa_cons (se_call h_square hr (by decide) rfl (sa_cons (se_var (pv 11)) sa_nil)) sa_nil)))) (ss_cons (ss_set (i := 14) nd rfl (Or.inl rfl) (se_call h_sum_of hr (by decide) rfl (sa_cons (se_lst (sa_cons (se_call h_times hr (by decide) rfl (sa_cons (se_tup (sa_cons se_int (sa_cons se_int sa_nil))) (sa_cons (se_call h_times hr (by decide) rfl (sa_cons (se_var (pv 11)) (sa_cons (se_var (pv 12)) sa_nil))) sa_nil))) (sa_cons (se_var (pv 6)) (sa_cons (se_call h_times hr (by decide) rfl (sa_cons (se_var (pv 7)) (sa_cons (se_var (pv 11)) sa_nil))) sa_nil)))) sa_nil))) (ss_cons (ss_set (i := 10) nd rfl (Or.inl rfl) (se_call h_both_roots hr (by decide) rfl (sa_cons (se_var (pv 13)) (sa_cons (se_var (pv 14)) (sa_cons (se_call h_sum_of hr (by decide) rfl (sa_cons (se_lst (sa_cons (se_call h_square hr (by decide) rfl (sa_cons (se_var (pv 12)) sa_nil)) (sa_cons (se_call h_times hr (by decide) rfl (sa_cons (se_var (pv 7)) (sa_cons (se_var (pv 12)) sa_nil))) (sa_cons (se_var (pv 8)) sa_nil)))) sa_nil)) sa_nil))))) (ss_one (ss_ret (se_lc (own := [("x", 9)]) rfl nd (blkOk_by (own := [("x", 9)]) rfl) (si_c (si_list (se_var (pv 10)))) (fun _ _ _ _ _ => (sg_name (pg_name (i := 9) nd rfl (Or.inl rfl)))) (fun _ _ _ _ _ => sts_nil) (fun _ _ _ _ _ => (se_tup (sa_cons (se_var (pv 9)) (sa_cons (se_call h_added_root hr (by decide) rfl (sa_cons (se_call h_by_fraction hr (by decide) rfl (sa_cons (se_var (pv 9)) (sa_cons (se_var (pv 11)) sa_nil))) (sa_cons (se_call h_plain hr (by decide) rfl (sa_cons (se_var (pv 12)) sa_nil)) sa_nil))) sa_nil))))))))))))))
theorem ok_same_power {f : Addr} {fd : FuncData} (F : Fun K "same_power" "same_power" s_same_power f fd) (gm : mg "same_power" = some (.ref f)) (k_NOTHING : Kst K mg "NOTHING" c_NOTHING) (h_minus : Df P w K mg base "minus" 2 3 F_minus) (h_over : Df P w K mg base "over" 2 3 F_over) : Df P w K mg base "same_power" 2 4 F_same_power := by
  have nd : (["one", "other", "a", "b", "c", "first"] : List Str).Nodup := by decide +kernel
  refine df_of (N := ["one", "other", "a", "b", "c", "first"]) (ps := ["one", "other"]) F ⟨rfl, rfl, rfl, nd, rfl, by decide +kernel, by decide +kernel⟩ rfl rfl gm (F.binds (ps := ["one", "other"]) fun _ _ _ _ _ _ us hl => match us, hl with | [_, _], _ => rfl) fun cdv A outer s0 H E aw hr => ?_
  exact (ss_cons (ss_par3 (ps_par3 (i := 2) (j := 3) (l := 4) rfl nd rfl rfl rfl (by decide) (by decide) (by decide) rfl rfl rfl (sa_cons (se_call h_minus hr (by decide) rfl (sa_cons (se_ix (se_var (pv 0)) se_int) (sa_cons (se_ix (se_var (pv 1)) se_int) sa_nil))) (sa_cons (se_call h_minus hr (by decide) rfl (sa_cons (se_ix (se_var (pv 0)) se_int) (sa_cons (se_ix (se_var (pv 1)) se_int) sa_nil))) (sa_cons (se_call h_minus hr (by decide) rfl (sa_cons (se_ix (se_var (pv 0)) se_int) (sa_cons (se_ix (se_var (pv 1)) se_int) sa_nil))) sa_nil))) (by rfl))) (ss_cons (ss_set (i := 5) nd rfl (Or.inl rfl) (se_if (st_ne hr (se_var (pv 2)) (se_glob k_NOTHING rfl)) (se_var (pv 2)) (se_var (pv 3)))) (ss_cons (ss_if (st_eq hr (se_var (pv 5)) (se_glob k_NOTHING rfl)) (ss_one (ss_ret se_non)) ss_nil) (ss_one (ss_ret (se_tup (sa_cons se_int (sa_cons (se_call h_over hr (by decide) rfl (sa_cons (se_var (pv 2)) (sa_cons (se_var (pv 5)) sa_nil))) (sa_cons (se_call h_over hr (by decide) rfl (sa_cons (se_var (pv 3)) (sa_cons (se_var (pv 5)) sa_nil))) (sa_cons (se_call h_over hr (by decide) rfl (sa_cons (se_var (pv 4)) (sa_cons (se_var (pv 5)) sa_nil))) sa_nil))))))))))
theorem ok_meets {f : Addr} {fd : FuncData} (F : Fun K "meets" "meets" s_meets f fd) (gm : mg "meets" = some (.ref f)) (h_of_lines : Df P w K mg base "of_lines" 2 4 F_of_lines) (h_of_line_and_circle : Df P w K mg base "of_line_and_circle" 2 6 F_of_line_and_circle) (h_same_power : Df P w K mg base "same_power" 2 4 F_same_power) (h_in_order : Df P w K mg base "in_order" 1 8 F_in_order) : Df P w K mg base "meets" 2 9 F_meets := by
  have nd : (["one", "other", "found", "power"] : List Str).Nodup := by decide +kernel
  refine df_of (N := ["one", "other", "found", "power"]) (ps := ["one", "other"]) F ⟨rfl, rfl, rfl, nd, rfl, by decide +kernel, by decide +kernel⟩ rfl rfl gm (F.binds (ps := ["one", "other"]) fun _ _ _ _ _ _ us hl => match us, hl with | [_, _], _ => rfl) fun cdv A outer s0 H E aw hr => ?_
  exact (ss_cons (ss_if (st_w (sw_and (st_eq hr (se_ix (se_var (pv 0)) se_int) se_int) (sw_and1 (st_eq hr (se_ix (se_var (pv 1)) se_int) se_int)))) (ss_one (ss_set (i := 2) nd rfl (Or.inl rfl) (se_call h_of_lines hr (by decide) rfl (sa_cons (se_var (pv 0)) (sa_cons (se_var (pv 1)) sa_nil))))) (ss_one (ss_if (st_eq hr (se_ix (se_var (pv 0)) se_int) se_int) (ss_one (ss_set (i := 2) nd rfl (Or.inl rfl) (se_call h_of_line_and_circle hr (by decide) rfl (sa_cons (se_var (pv 0)) (sa_cons (se_var (pv 1)) sa_nil))))) (ss_one (ss_if (st_eq hr (se_ix (se_var (pv 1)) se_int) se_int) (ss_one (ss_set (i := 2) nd rfl (Or.inl rfl) (se_call h_of_line_and_circle hr (by decide) rfl (sa_cons (se_var (pv 1)) (sa_cons (se_var (pv 0)) sa_nil))))) (ss_cons (ss_set (i := 3) nd rfl (Or.inl rfl) (se_call h_same_power hr (by decide) rfl (sa_cons (se_var (pv 0)) (sa_cons (se_var (pv 1)) sa_nil)))) (ss_one (ss_set (i := 2) nd rfl (Or.inl rfl) (se_if (st_notN (se_var (pv 3)) se_non) (se_call h_of_line_and_circle hr (by decide) rfl (sa_cons (se_var (pv 3)) (sa_cons (se_var (pv 0)) sa_nil))) (se_lst sa_nil)))))))))) (ss_one (ss_ret (se_call h_in_order hr (by decide) rfl (sa_cons (se_var (pv 2)) sa_nil)))))
theorem ok_touch_kind {f : Addr} {fd : FuncData} (F : Fun K "touch_kind" "touch_kind" s_touch_kind f fd) (gm : mg "touch_kind" = some (.ref f)) (h_middle_of : Df P w K mg base "middle_of" 1 4 F_middle_of) (h_minus : Df P w K mg base "minus" 2 3 F_minus) (h_square : Df P w K mg base "square" 1 1 F_square) (h_added : Df P w K mg base "added" 2 3 F_added) (h_radius_of : Df P w K mg base "radius_of" 1 5 F_radius_of) (h_times : Df P w K mg base "times" 2 3 F_times) (h_sign : Df P w K mg base "sign" 1 2 F_sign) : Df P w K mg base "touch_kind" 2 6 F_touch_kind := by
  have nd : (["one", "other", "x", "y", "u", "v", "gap", "first", "second", "rest", "over_all"] : List Str).Nodup := by decide +kernel
  refine df_of (N := ["one", "other", "x", "y", "u", "v", "gap", "first", "second", "rest", "over_all"]) (ps := ["one", "other"]) F ⟨rfl, rfl, rfl, nd, rfl, by decide +kernel, by decide +kernel⟩ rfl rfl gm (F.binds (ps := ["one", "other"]) fun _ _ _ _ _ _ us hl => match us, hl with | [_, _], _ => rfl) fun cdv A outer s0 H E aw hr => ?_
  exact (ss_cons (ss_if (st_eq hr (se_var (pv 0)) (se_var (pv 1))) (ss_one (ss_ret se_str)) ss_nil) (ss_cons (ss_asg (se_tup (sa_cons (se_call h_middle_of hr (by decide) rfl (sa_cons (se_var (pv 0)) sa_nil)) (sa_cons (se_call h_middle_of hr (by decide) rfl (sa_cons (se_var (pv 1)) sa_nil)) sa_nil))) (sg_tup rfl (sgs_cons (sg_tup rfl (sgs_cons (sg_name (pg_name (i := 2) nd rfl (Or.inl rfl))) (sgs_cons (sg_name (pg_name (i := 3) nd rfl (Or.inl rfl))) sgs_nil))) (sgs_cons (sg_tup rfl (sgs_cons (sg_name (pg_name (i := 4) nd rfl (Or.inl rfl))) (sgs_cons (sg_name (pg_name (i := 5) nd rfl (Or.inl rfl))) sgs_nil))) sgs_nil)))) (ss_cons (ss_set (i := 6) nd rfl (Or.inl rfl) (se_call h_added hr (by decide) rfl (sa_cons (se_call h_square hr (by decide) rfl (sa_cons (se_call h_minus hr (by decide) rfl (sa_cons (se_var (pv 2)) (sa_cons (se_var (pv 4)) sa_nil))) sa_nil)) (sa_cons (se_call h_square hr (by decide) rfl (sa_cons (se_call h_minus hr (by decide) rfl (sa_cons (se_var (pv 3)) (sa_cons (se_var (pv 5)) sa_nil))) sa_nil)) sa_nil)))) (ss_cons (ss_par (ps_par (i := 7) (j := 8) rfl nd rfl rfl (by decide) rfl rfl (sa_cons (se_call h_radius_of hr (by decide) rfl (sa_cons (se_var (pv 0)) sa_nil)) (sa_cons (se_call h_radius_of hr (by decide) rfl (sa_cons (se_var (pv 1)) sa_nil)) sa_nil)) (by rfl))) (ss_cons (ss_set (i := 9) nd rfl (Or.inl rfl) (se_call h_minus hr (by decide) rfl (sa_cons (se_var (pv 6)) (sa_cons (se_call h_added hr (by decide) rfl (sa_cons (se_var (pv 7)) (sa_cons (se_var (pv 8)) sa_nil))) sa_nil)))) (ss_cons (ss_set (i := 10) nd rfl (Or.inl rfl) (se_call h_sign hr (by decide) rfl (sa_cons (se_call h_minus hr (by decide) rfl (sa_cons (se_call h_square hr (by decide) rfl (sa_cons (se_var (pv 9)) sa_nil)) (sa_cons (se_call h_times hr (by decide) rfl (sa_cons (se_tup (sa_cons se_int (sa_cons se_int sa_nil))) (sa_cons (se_call h_times hr (by decide) rfl (sa_cons (se_var (pv 7)) (sa_cons (se_var (pv 8)) sa_nil))) sa_nil))) sa_nil))) sa_nil))) (ss_cons (ss_if (st_lt (se_var (pv 10)) se_int) (ss_one (ss_ret se_str)) ss_nil) (ss_cons (ss_if (st_gt (se_call h_sign hr (by decide) rfl (sa_cons (se_var (pv 9)) sa_nil)) se_int) (ss_one (ss_ret (se_if (st_eq hr (se_var (pv 10)) se_int) se_str se_str))) ss_nil) (ss_cons (ss_if (st_eq hr (se_var (pv 10)) se_int) (ss_one (ss_ret se_str)) ss_nil) (ss_one (ss_ret (se_if (st_lt (se_call h_sign hr (by decide) rfl (sa_cons (se_call h_minus hr (by decide) rfl (sa_cons (se_var (pv 7)) (sa_cons (se_var (pv 8)) sa_nil))) sa_nil)) se_int) se_str se_str))))))))))))
theorem ok__law_meet {f : Addr} {fd : FuncData} (F : Fun K "_law_meet" "_law_meet" s__law_meet f fd) (gm : mg "_law_meet" = some (.ref f)) (b_range : mg "range" = none) (b_len : mg "len" = none) (h_meets : Df P w K mg base "meets" 2 9 F_meets) (h_compare_points : Df P w K mg base "compare_points" 2 7 F_compare_points) (h__law_sign : Df P w K mg base "_law_sign" 2 3 F__law_sign) (h_is_root : Df P w K mg base "is_root" 1 3 F_is_root) (h_middle_of : Df P w K mg base "middle_of" 1 4 F_middle_of) (h__law_plus : Df P w K mg base "_law_plus" 2 1 F__law_plus) (h__law_by : Df P w K mg base "_law_by" 2 1 F__law_by) (h_radius_of : Df P w K mg base "radius_of" 1 5 F_radius_of) (h__law_rooted : Df P w K mg base "_law_rooted" 3 2 F__law_rooted) (h__law_side : Df P w K mg base "_law_side" 1 1 F__law_side) (h_touch_kind : Df P w K mg base "touch_kind" 2 6 F_touch_kind) : Df P w K mg base "_law_meet" 2 10 F__law_meet := by
  have nd : (["one", "other", "points", "point", "x", "y", "u", "v", "gap", "r", "s", "rest", "outer", "inner", "due", "low", "straight", "ring", "value", "long", "k", "root"] : List Str).Nodup := by decide +kernel
  refine df_of (N := ["one", "other", "points", "point", "x", "y", "u", "v", "gap", "r", "s", "rest", "outer", "inner", "due", "low", "straight", "ring", "value", "long", "k", "root"]) (ps := ["one", "other"]) F ⟨rfl, rfl, rfl, nd, rfl, by decide +kernel, by decide +kernel⟩ rfl rfl gm (F.binds (ps := ["one", "other"]) fun _ _ _ _ _ _ us hl => match us, hl with | [_, _], _ => rfl) fun cdv A outer s0 H E aw hr => ?_
  exact (ss_cons (ss_set (i := 2) nd rfl (Or.inr rfl) (se_call h_meets hr (by decide) rfl (sa_cons (se_var (pv 0)) (sa_cons (se_var (pv 1)) sa_nil)))) (ss_cons (ss_if (st_w (sw_or (st_ne hr (se_var (pv 2)) (se_call h_meets hr (by decide) rfl (sa_cons (se_var (pv 1)) (sa_cons (se_var (pv 0)) sa_nil)))) (sw_or1 (st_ne hr (se_lc (own := [("k", 20)]) rfl nd (blkOk_by (own := [("k", 20)]) rfl) (si_c (si_rng1 rfl b_range (sa_cons (se_sub (se_len rfl b_len (sa_cons (se_var (pv 2)) sa_nil)) se_int) sa_nil))) (fun _ _ _ _ _ => (sg_name (pg_name (i := 20) nd rfl (Or.inl rfl)))) (fun _ _ _ _ _ => (sts_one (st_ge (se_call h_compare_points hr (by decide) rfl (sa_cons (se_ix (se_var (pv 2)) (se_var (pv 20))) (sa_cons (se_ix (se_var (pv 2)) (se_add (se_var (pv 20)) se_int)) sa_nil))) se_int))) (fun _ _ _ _ _ => (se_var (pv 20)))) (se_lst sa_nil))))) (ss_one (ss_ret se_bl)) ss_nil) (ss_cons (ss_for PassesOwn.never rfl (si_list (se_var (pv 2))) (sg_name (pg_name (i := 3) nd rfl (Or.inl rfl))) (ss_one (ss_if (st_w (sw_or (st_ne hr (se_call h__law_sign hr (by decide) rfl (sa_cons (se_var (pv 0)) (sa_cons (se_var (pv 3)) sa_nil))) se_int) (sw_or (st_ne hr (se_call h__law_sign hr (by decide) rfl (sa_cons (se_var (pv 1)) (sa_cons (se_var (pv 3)) sa_nil))) se_int) (sw_or1 (st_ne hr (se_lc (own := [("root", 21)]) rfl nd (blkOk_by (own := [("root", 21)]) rfl) (si_c (si_tup (se_var (pv 3)))) (fun _ _ _ _ _ => (sg_name (pg_name (i := 21) nd rfl (Or.inl rfl)))) (fun _ _ _ _ _ => (sts_one (st_notB (se_call h_is_root hr (by decide) rfl (sa_cons (se_var (pv 21)) sa_nil)) se_bl))) (fun _ _ _ _ _ => (se_var (pv 21)))) (se_lst sa_nil)))))) (ss_one (ss_ret se_bl)) ss_nil))) (ss_cons (ss_if (st_w (sw_and (st_eq hr (se_ix (se_var (pv 0)) se_int) se_int) (sw_and1 (st_eq hr (se_ix (se_var (pv 1)) se_int) se_int)))) (ss_cons (ss_asg (se_tup (sa_cons (se_call h_middle_of hr (by decide) rfl (sa_cons (se_var (pv 0)) sa_nil)) (sa_cons (se_call h_middle_of hr (by decide) rfl (sa_cons (se_var (pv 1)) sa_nil)) sa_nil))) (sg_tup rfl (sgs_cons (sg_tup rfl (sgs_cons (sg_name (pg_name (i := 4) nd rfl (Or.inl rfl))) (sgs_cons (sg_name (pg_name (i := 5) nd rfl (Or.inl rfl))) sgs_nil))) (sgs_cons (sg_tup rfl (sgs_cons (sg_name (pg_name (i := 6) nd rfl (Or.inl rfl))) (sgs_cons (sg_name (pg_name (i := 7) nd rfl (Or.inl rfl))) sgs_nil))) sgs_nil)))) (ss_cons (ss_set (i := 8) nd rfl (Or.inl rfl) (se_call h__law_plus hr (by decide) rfl (sa_cons (se_call h__law_by hr (by decide) rfl (sa_cons (se_call h__law_plus hr (by decide) rfl (sa_cons (se_var (pv 4)) (sa_cons (se_tup (sa_cons (se_sub se_int (se_ix (se_var (pv 6)) se_int)) (sa_cons (se_ix (se_var (pv 6)) se_int) sa_nil))) sa_nil))) (sa_cons (se_call h__law_plus hr (by decide) rfl (sa_cons (se_var (pv 4)) (sa_cons (se_tup (sa_cons (se_sub se_int (se_ix (se_var (pv 6)) se_int)) (sa_cons (se_ix (se_var (pv 6)) se_int) sa_nil))) sa_nil))) sa_nil))) (sa_cons (se_call h__law_by hr (by decide) rfl (sa_cons (se_call h__law_plus hr (by decide) rfl (sa_cons (se_var (pv 5)) (sa_cons (se_tup (sa_cons (se_sub se_int (se_ix (se_var (pv 7)) se_int)) (sa_cons (se_ix (se_var (pv 7)) se_int) sa_nil))) sa_nil))) (sa_cons (se_call h__law_plus hr (by decide) rfl (sa_cons (se_var (pv 5)) (sa_cons (se_tup (sa_cons (se_sub se_int (se_ix (se_var (pv 7)) se_int)) (sa_cons (se_ix (se_var (pv 7)) se_int) sa_nil))) sa_nil))) sa_nil))) sa_nil)))) (ss_cons (ss_par (ps_par (i := 9) (j := 10) rfl nd rfl rfl (by decide) rfl rfl (sa_cons (se_call h_radius_of hr (by decide) rfl (sa_cons (se_var (pv 0)) sa_nil)) (sa_cons (se_call h_radius_of hr (by decide) rfl (sa_cons (se_var (pv 1)) sa_nil)) sa_nil)) (by rfl))) (ss_cons (ss_set (i := 11) nd rfl (Or.inl rfl) (se_call h__law_plus hr (by decide) rfl (sa_cons (se_var (pv 8)) (sa_cons (se_call h__law_by hr (by decide) rfl (sa_cons (se_tup (sa_cons (se_neg se_int) (sa_cons se_int sa_nil))) (sa_cons (se_call h__law_plus hr (by decide) rfl (sa_cons (se_var (pv 9)) (sa_cons (se_var (pv 10)) sa_nil))) sa_nil))) sa_nil)))) (ss_cons (ss_par (ps_par (i := 12) (j := 13) rfl nd rfl rfl (by decide) rfl rfl (sa_cons (se_call h__law_rooted hr (by decide) rfl (sa_cons (se_var (pv 11)) (sa_cons (se_tup (sa_cons (se_neg se_int) (sa_cons se_int sa_nil))) (sa_cons (se_call h__law_by hr (by decide) rfl (sa_cons (se_var (pv 9)) (sa_cons (se_var (pv 10)) sa_nil))) sa_nil)))) (sa_cons (se_call h__law_rooted hr (by decide) rfl (sa_cons (se_var (pv 11)) (sa_cons (se_tup (sa_cons se_int (sa_cons se_int sa_nil))) (sa_cons (se_call h__law_by hr (by decide) rfl (sa_cons (se_var (pv 9)) (sa_cons (se_var (pv 10)) sa_nil))) sa_nil)))) sa_nil)) (by rfl))) (ss_cons (ss_set (i := 14) nd rfl (Or.inl rfl) (se_if (st_gt (se_var (pv 12)) se_int) se_str (se_if (st_eq hr (se_var (pv 12)) se_int) se_str (se_if (st_gt (se_var (pv 13)) se_int) se_str (se_if (st_eq hr (se_var (pv 13)) se_int) se_str (se_if (st_lt (se_call h__law_side hr (by decide) rfl (sa_cons (se_call h__law_plus hr (by decide) rfl (sa_cons (se_var (pv 9)) (sa_cons (se_tup (sa_cons (se_sub se_int (se_ix (se_var (pv 10)) se_int)) (sa_cons (se_ix (se_var (pv 10)) se_int) sa_nil))) sa_nil))) sa_nil)) se_int) se_str se_str)))))) (ss_cons (ss_if (st_w (sw_or (st_ne hr (se_call h_touch_kind hr (by decide) rfl (sa_cons (se_var (pv 0)) (sa_cons (se_var (pv 1)) sa_nil))) (se_var (pv 14))) (sw_or1 (st_ne hr (se_len rfl b_len (sa_cons (se_var (pv 2)) sa_nil)) (se_tab3 (room1 hr) (se_var (pv 14)) (by decide) (by decide) (by decide) ⟨rfl, rfl, rfl, rfl⟩))))) (ss_one (ss_ret se_bl)) ss_nil) (ss_one (ss_ret (se_eq hr (se_call h_touch_kind hr (by decide) rfl (sa_cons (se_var (pv 0)) (sa_cons (se_var (pv 0)) sa_nil))) se_str)))))))))) ss_nil) (ss_cons (ss_if (st_w (sw_and (st_eq hr (se_ix (se_var (pv 0)) se_int) se_int) (sw_and1 (st_eq hr (se_ix (se_var (pv 1)) se_int) se_int)))) (ss_cons (ss_set (i := 15) nd rfl (Or.inl rfl) (se_call h__law_plus hr (by decide) rfl (sa_cons (se_call h__law_by hr (by decide) rfl (sa_cons (se_ix (se_var (pv 0)) se_int) (sa_cons (se_ix (se_var (pv 1)) se_int) sa_nil))) (sa_cons (se_call h__law_by hr (by decide) rfl (sa_cons (se_tup (sa_cons (se_neg se_int) (sa_cons se_int sa_nil))) (sa_cons (se_call h__law_by hr (by decide) rfl (sa_cons (se_ix (se_var (pv 1)) se_int) (sa_cons (se_ix (se_var (pv 0)) se_int) sa_nil))) sa_nil))) sa_nil)))) (ss_one (ss_ret (se_eq hr (se_len rfl b_len (sa_cons (se_var (pv 2)) sa_nil)) (se_if (st_eq hr (se_ix (se_var (pv 15)) se_int) se_int) se_int se_int))))) ss_nil) (ss_cons (ss_asg (se_if (st_eq hr (se_ix (se_var (pv 0)) se_int) se_int) (se_tup (sa_cons (se_var (pv 0)) (sa_cons (se_var (pv 1)) sa_nil))) (se_tup (sa_cons (se_var (pv 1)) (sa_cons (se_var (pv 0)) sa_nil)))) (sg_tup rfl (sgs_cons (sg_name (pg_name (i := 16) nd rfl (Or.inl rfl))) (sgs_cons (sg_name (pg_name (i := 17) nd rfl (Or.inl rfl))) sgs_nil)))) (ss_cons (ss_asg (se_call h_middle_of hr (by decide) rfl (sa_cons (se_var (pv 17)) sa_nil)) (sg_tup rfl (sgs_cons (sg_name (pg_name (i := 4) nd rfl (Or.inl rfl))) (sgs_cons (sg_name (pg_name (i := 5) nd rfl (Or.inl rfl))) sgs_nil)))) (ss_cons (ss_set (i := 18) nd rfl (Or.inl rfl) (se_call h__law_plus hr (by decide) rfl (sa_cons (se_call h__law_by hr (by decide) rfl (sa_cons (se_ix (se_var (pv 16)) se_int) (sa_cons (se_var (pv 4)) sa_nil))) (sa_cons (se_call h__law_plus hr (by decide) rfl (sa_cons (se_call h__law_by hr (by decide) rfl (sa_cons (se_ix (se_var (pv 16)) se_int) (sa_cons (se_var (pv 5)) sa_nil))) (sa_cons (se_ix (se_var (pv 16)) se_int) sa_nil))) sa_nil)))) (ss_cons (ss_set (i := 19) nd rfl (Or.inl rfl) (se_call h__law_plus hr (by decide) rfl (sa_cons (se_call h__law_by hr (by decide) rfl (sa_cons (se_ix (se_var (pv 16)) se_int) (sa_cons (se_ix (se_var (pv 16)) se_int) sa_nil))) (sa_cons (se_call h__law_by hr (by decide) rfl (sa_cons (se_ix (se_var (pv 16)) se_int) (sa_cons (se_ix (se_var (pv 16)) se_int) sa_nil))) sa_nil)))) (ss_cons (ss_set (i := 8) nd rfl (Or.inl rfl) (se_call h__law_side hr (by decide) rfl (sa_cons (se_call h__law_plus hr (by decide) rfl (sa_cons (se_call h__law_by hr (by decide) rfl (sa_cons (se_call h_radius_of hr (by decide) rfl (sa_cons (se_var (pv 17)) sa_nil)) (sa_cons (se_var (pv 19)) sa_nil))) (sa_cons (se_call h__law_by hr (by decide) rfl (sa_cons (se_tup (sa_cons (se_neg se_int) (sa_cons se_int sa_nil))) (sa_cons (se_call h__law_by hr (by decide) rfl (sa_cons (se_var (pv 18)) (sa_cons (se_var (pv 18)) sa_nil))) sa_nil))) sa_nil))) sa_nil))) (ss_one (ss_ret (se_eq hr (se_len rfl b_len (sa_cons (se_var (pv 2)) sa_nil)) (se_add se_int (se_var (pv 8))))))))))))))))
theorem ok_law {f : Addr} {fd : FuncData} (F : Fun K "law" "law" s_law f fd) (b_range : mg "range" = none) (b_len : mg "len" = none) (h__law_draws : Df P w K mg base "_law_draws" 2 1 F__law_draws) (h__law_fractions : Df P w K mg base "_law_fractions" 1 5 F__law_fractions) (h__law_roots : Df P w K mg base "_law_roots" 1 10 F__law_roots) (h__law_curves : Df P w K mg base "_law_curves" 2 5 F__law_curves) (h__law_meet : Df P w K mg base "_law_meet" 2 10 F__law_meet) (h__law_made : Df P w K mg base "_law_made" 2 8 F__law_made) (h__law_next : Df P w K mg base "_law_next" 2 1 F__law_next) (h_line : Df P w K mg base "line" 3 4 F_line) (h__law_spot : Df P w K mg base "_law_spot" 1 2 F__law_spot) (h__law_least : Df P w K mg base "_law_least" 1 1 F__law_least) (h__law_by : Df P w K mg base "_law_by" 2 1 F__law_by) (h__law_plus : Df P w K mg base "_law_plus" 2 1 F__law_plus) (h__law_sign : Df P w K mg base "_law_sign" 2 3 F__law_sign) (h__law_side : Df P w K mg base "_law_side" 1 1 F__law_side)
    (hd : ∀ ns : List Int, ns.length ≤ 63 → D_law (env0 13 [scr ns]) IsDraws) (hs : ∀ ns : List Int, ns.length ≤ 63 → R_law (env0 13 [scr ns, .dict []]) { nx := fun _ => False, rt := fun d => d = .bool true, bk := fun _ => False, ct := fun _ => False }) : FnOk P w K mg base CX0 11 f fd ["script"] (spLaw K) := by
  have nd : (["script", "w", "turn", "curves", "k", "a", "b", "c", "told", "is_turned", "spot", "value", "n"] : List Str).Nodup := by decide +kernel
  refine F.ok (N := ["script", "w", "turn", "curves", "k", "a", "b", "c", "told", "is_turned", "spot", "value", "n"]) ⟨rfl, rfl, rfl, nd, rfl, by decide +kernel, by decide +kernel⟩ (fun vs H Q E h => ?_) (fun cdv A outer s0 H vs Q E hr h => ?_)
  · obtain ⟨a, ns, rfl, _⟩ := h
    rfl
  · obtain ⟨a, ns, rfl, hS, hl, q⟩ := h
    refine ⟨_, pss_cons (ps_set (i := 1) nd rfl (Or.inr rfl) (pe_disp (pps_cons pe_str (by exact (se_call (aw := none) h__law_draws hr (by decide) rfl (sa_cons (se_var (pv 0)) (sa_cons se_int sa_nil)))) (pps_cons pe_str pe_int pps_nil)) rfl rfl (by simp) (by simp))) (sse fun aw => (ss_cons (ss_for PassesOwn.never rfl (si_rng1 rfl b_range (sa_cons se_int sa_nil)) (sg_name (pg_name (i := 2) nd rfl (Or.inl rfl))) (ss_cons (ss_if (st_w (sw_or (st_not (st_val (se_call h__law_fractions hr (by decide) rfl (sa_cons (se_var (pv 1)) sa_nil)))) (sw_or1 (st_not (st_val (se_call h__law_roots hr (by decide) rfl (sa_cons (se_var (pv 1)) sa_nil))))))) (ss_one (ss_ret se_bl)) ss_nil) (ss_cons (ss_set (i := 3) nd rfl (Or.inr rfl) (se_call h__law_curves hr (by decide) rfl (sa_cons (se_var (pv 1)) (sa_cons se_int sa_nil)))) (ss_cons (ss_for PassesOwn.never rfl (si_rng1 rfl b_range (sa_cons (se_len rfl b_len (sa_cons (se_var (pv 3)) sa_nil)) sa_nil)) (sg_name (pg_name (i := 4) nd rfl (Or.inr rfl))) (ss_one (ss_if (st_ne hr (se_lc (own := [("n", 12)]) rfl nd (blkOk_by (own := [("n", 12)]) rfl) (si_c (si_rng1 rfl b_range (sa_cons (se_var (pv 4)) sa_nil))) (fun _ _ _ _ _ => (sg_name (pg_name (i := 12) nd rfl (Or.inl rfl)))) (fun _ _ _ _ _ => (sts_one (st_not (st_val (se_call h__law_meet hr (by decide) rfl (sa_cons (se_ix (se_var (pv 3)) (se_var (pv 12))) (sa_cons (se_ix (se_var (pv 3)) (se_var (pv 4))) sa_nil))))))) (fun _ _ _ _ _ => (se_var (pv 12)))) (se_lst sa_nil)) (ss_one (ss_ret se_bl)) ss_nil))) (ss_cons (ss_if (st_not (st_val (se_call h__law_made hr (by decide) rfl (sa_cons (se_var (pv 1)) (sa_cons (se_var (pv 3)) sa_nil))))) (ss_one (ss_ret se_bl)) ss_nil) (ss_cons (ss_asg (se_lc (own := [("k", 4)]) rfl nd (blkOk_by (own := [("k", 4)]) rfl) (si_c (si_rng1 rfl b_range (sa_cons se_int sa_nil))) (fun _ _ _ _ _ => (sg_name (pg_name (i := 4) nd rfl (Or.inl rfl)))) (fun _ _ _ _ _ => sts_nil) (fun _ _ _ _ _ => (se_tup (sa_cons (se_sub (se_call h__law_next hr (by decide) rfl (sa_cons (se_var (pv 1)) (sa_cons se_int sa_nil))) se_int) (sa_cons se_int sa_nil))))) (sg_lst rfl (sgs_cons (sg_name (pg_name (i := 5) nd rfl (Or.inl rfl))) (sgs_cons (sg_name (pg_name (i := 6) nd rfl (Or.inl rfl))) (sgs_cons (sg_name (pg_name (i := 7) nd rfl (Or.inl rfl))) sgs_nil))))) (ss_one (ss_if (st_ne hr (se_tup (sa_cons (se_var (pv 5)) (sa_cons (se_var (pv 6)) sa_nil))) (se_tup (sa_cons (se_tup (sa_cons se_int (sa_cons se_int sa_nil))) (sa_cons (se_tup (sa_cons se_int (sa_cons se_int sa_nil))) sa_nil)))) (ss_cons (ss_asg (se_call h_line hr (by decide) rfl (sa_cons (se_var (pv 5)) (sa_cons (se_var (pv 6)) (sa_cons (se_var (pv 7)) sa_nil)))) (sg_tup rfl (sgs_cons (sg_name (pg_name (i := 8) nd rfl (Or.inl rfl))) (sgs_cons (sg_name (pg_name (i := 9) nd rfl (Or.inl rfl))) sgs_nil)))) (ss_cons (ss_set (i := 10) nd rfl (Or.inl rfl) (se_call h__law_least hr (by decide) rfl (sa_cons (se_call h__law_spot hr (by decide) rfl (sa_cons (se_var (pv 1)) sa_nil)) sa_nil))) (ss_cons (ss_set (i := 11) nd rfl (Or.inl rfl) (se_call h__law_plus hr (by decide) rfl (sa_cons (se_call h__law_by hr (by decide) rfl (sa_cons (se_var (pv 5)) (sa_cons (se_ix (se_ix (se_var (pv 10)) se_int) se_int) sa_nil))) (sa_cons (se_call h__law_plus hr (by decide) rfl (sa_cons (se_call h__law_by hr (by decide) rfl (sa_cons (se_var (pv 6)) (sa_cons (se_ix (se_ix (se_var (pv 10)) se_int) se_int) sa_nil))) (sa_cons (se_var (pv 7)) sa_nil))) sa_nil)))) (ss_one (ss_if (st_ne hr (se_mul (se_call h__law_sign hr (by decide) rfl (sa_cons (se_var (pv 8)) (sa_cons (se_var (pv 10)) sa_nil))) (se_if (st_val (se_var (pv 9))) (se_neg se_int) se_int)) (se_call h__law_side hr (by decide) rfl (sa_cons (se_var (pv 11)) sa_nil))) (ss_one (ss_ret se_bl)) ss_nil))))) ss_nil)))))))) (ss_one (ss_ret se_bl)))), ?_⟩
    exact law_reads (m := D_law) (s := R_law) (by decide) hS (hd ns hl) (hs ns hl) q
end

theorem all_mk {w : PySem.World} {K : PySem.W.Frag} {h : Heap} {mg : Str → Option Value} {fa C : Addr} (X : K.In h) (G : h.Ns mainGlobals mg) (hfa : mg "law" = some (.ref fa))
    (d__law_draws : DefAt K "_law_draws" s__law_draws)
    (d__law_next : DefAt K "_law_next" s__law_next)
    (d_common : DefAt K "common" s_common)
    (d_fraction : DefAt K "fraction" s_fraction)
    (d_minus : DefAt K "minus" s_minus)
    (d_sign_of : DefAt K "sign_of" s_sign_of)
    (d_sign : DefAt K "sign" s_sign)
    (d_added : DefAt K "added" s_added)
    (d_times : DefAt K "times" s_times)
    (d_square : DefAt K "square" s_square)
    (d_circle : DefAt K "circle" s_circle)
    (d_over : DefAt K "over" s_over)
    (d_line : DefAt K "line" s_line)
    (d__law_curves : DefAt K "_law_curves" s__law_curves)
    (d_circle_through : DefAt K "circle_through" s_circle_through)
    (d_turned : DefAt K "turned" s_turned)
    (d_line_through : DefAt K "line_through" s_line_through)
    (d_half : DefAt K "half" s_half)
    (d_middle_of : DefAt K "middle_of" s_middle_of)
    (d__law_plus : DefAt K "_law_plus" s__law_plus)
    (d__law_side : DefAt K "_law_side" s__law_side)
    (d__law_by : DefAt K "_law_by" s__law_by)
    (d__law_rooted : DefAt K "_law_rooted" s__law_rooted)
    (d__law_sign : DefAt K "_law_sign" s__law_sign)
    (d_radius_of : DefAt K "radius_of" s_radius_of)
    (d_is_number : DefAt K "is_number" s_is_number)
    (d_is_fraction : DefAt K "is_fraction" s_is_fraction)
    (d_is_curve : DefAt K "is_curve" s_is_curve)
    (d_plain : DefAt K "plain" s_plain)
    (d_point_of : DefAt K "point_of" s_point_of)
    (d_whole_root : DefAt K "whole_root" s_whole_root)
    (d_tidy : DefAt K "tidy" s_tidy)
    (d_turns_of : DefAt K "turns_of" s_turns_of)
    (d_sign_of_root : DefAt K "sign_of_root" s_sign_of_root)
    (d_added_root : DefAt K "added_root" s_added_root)
    (d_by_fraction : DefAt K "by_fraction" s_by_fraction)
    (d_times_root : DefAt K "times_root" s_times_root)
    (d_value_at : DefAt K "value_at" s_value_at)
    (d_sign_at : DefAt K "sign_at" s_sign_at)
    (d__law_made : DefAt K "_law_made" s__law_made)
    (d__law_least : DefAt K "_law_least" s__law_least)
    (d_is_less : DefAt K "is_less" s_is_less)
    (d_middle : DefAt K "middle" s_middle)
    (d_sum_of : DefAt K "sum_of" s_sum_of)
    (d_whole : DefAt K "whole" s_whole)
    (d_floor : DefAt K "floor" s_floor)
    (d__law_same : DefAt K "_law_same" s__law_same)
    (d__law_fractions : DefAt K "_law_fractions" s__law_fractions)
    (d_sign_of_two : DefAt K "sign_of_two" s_sign_of_two)
    (d_compare : DefAt K "compare" s_compare)
    (d_sorted_roots : DefAt K "sorted_roots" s_sorted_roots)
    (d_turned_root : DefAt K "turned_root" s_turned_root)
    (d_minus_root : DefAt K "minus_root" s_minus_root)
    (d_over_root : DefAt K "over_root" s_over_root)
    (d_root_of : DefAt K "root_of" s_root_of)
    (d_is_root : DefAt K "is_root" s_is_root)
    (d__law_sums : DefAt K "_law_sums" s__law_sums)
    (d__law_root : DefAt K "_law_root" s__law_root)
    (d_bound_of : DefAt K "bound_of" s_bound_of)
    (d_floor_of : DefAt K "floor_of" s_floor_of)
    (d_rounded : DefAt K "rounded" s_rounded)
    (d_digits_of : DefAt K "digits_of" s_digits_of)
    (d_near_by : DefAt K "near_by" s_near_by)
    (d_rank_of : DefAt K "rank_of" s_rank_of)
    (d__law_gap : DefAt K "_law_gap" s__law_gap)
    (d_between : DefAt K "between" s_between)
    (d_least_of : DefAt K "least_of" s_least_of)
    (d_greatest_of : DefAt K "greatest_of" s_greatest_of)
    (d__law_roots : DefAt K "_law_roots" s__law_roots)
    (d__law_spot : DefAt K "_law_spot" s__law_spot)
    (d_compare_points : DefAt K "compare_points" s_compare_points)
    (d_in_order : DefAt K "in_order" s_in_order)
    (d_of_lines : DefAt K "of_lines" s_of_lines)
    (d_is_upright : DefAt K "is_upright" s_is_upright)
    (d_both_roots : DefAt K "both_roots" s_both_roots)
    (d_of_line_and_circle : DefAt K "of_line_and_circle" s_of_line_and_circle)
    (d_same_power : DefAt K "same_power" s_same_power)
    (d_meets : DefAt K "meets" s_meets)
    (d_touch_kind : DefAt K "touch_kind" s_touch_kind)
    (d__law_meet : DefAt K "_law_meet" s__law_meet)
    (d_law : DefAt K "law" s_law)
    (cc_NOTHING : CstAt K "NOTHING" (0) (1))
    (cc_WHOLE : CstAt K "WHOLE" (1) (1))
    (z_range : PySem.W.nsIn K mainGlobals "range" = some none)
    (z_len : PySem.W.nsIn K mainGlobals "len" = some none)
    (z_abs : PySem.W.nsIn K mainGlobals "abs" = some none)
    (z_int : PySem.W.nsIn K mainGlobals "int" = some none)
    (z_isinstance : PySem.W.nsIn K mainGlobals "isinstance" = some none)
    (z_bool : PySem.W.nsIn K mainGlobals "bool" = some none)
    (z_tuple : PySem.W.nsIn K mainGlobals "tuple" = some none)
    (z_all : PySem.W.nsIn K mainGlobals "all" = some none)
    (z_str : PySem.W.nsIn K mainGlobals "str" = some none)
    (z_sorted : PySem.W.nsIn K mainGlobals "sorted" = some none)
    (RA : ∀ base : Heap, RaiseAtN PySem.Challenge.rw_cornersexact_k91_whole_numbers_and_curve.prog w K mg base "Unfit" C) (TU : TryU K mg C)
    (hd : ∀ ns : List Int, ns.length ≤ 63 → D_law (env0 13 [scr ns]) IsDraws) (hs : ∀ ns : List Int, ns.length ≤ 63 → R_law (env0 13 [scr ns, .dict []]) { nx := fun _ => False, rt := fun d => d = .bool true, bk := fun _ => False, ct := fun _ => False }) :
    ∃ fd : FuncData, (∀ (s : Shared) (v : Value), BindsTo s fd ⟨[v], []⟩ [("script", v)]) ∧ ∀ base : Heap, K.In base → base.Ns mainGlobals mg → FnOk PySem.Challenge.rw_cornersexact_k91_whole_numbers_and_curve.prog w K mg base CX0 11 fa fd ["script"] (spLaw K) := by
  have k_NOTHING : Kst K mg "NOTHING" c_NOTHING := by
    obtain ⟨_, _, _, _, _, _, a, l⟩ := cc_NOTHING
    exact kst_pair (PySem.W.mg_of X G a) l
  have k_WHOLE : Kst K mg "WHOLE" c_WHOLE := by
    obtain ⟨_, _, _, _, _, _, a, l⟩ := cc_WHOLE
    exact kst_pair (PySem.W.mg_of X G a) l
  have b_range := PySem.W.mg_none_of X G z_range
  have b_len := PySem.W.mg_none_of X G z_len
  have b_abs := PySem.W.mg_none_of X G z_abs
  have b_int := PySem.W.mg_none_of X G z_int
  have b_isinstance := PySem.W.mg_none_of X G z_isinstance
  have b_bool := PySem.W.mg_none_of X G z_bool
  have b_tuple := PySem.W.mg_none_of X G z_tuple
  have b_all := PySem.W.mg_none_of X G z_all
  have b_str := PySem.W.mg_none_of X G z_str
  have b_sorted := PySem.W.mg_none_of X G z_sorted
  have h__law_draws : ∀ base, Df PySem.Challenge.rw_cornersexact_k91_whole_numbers_and_curve.prog w K mg base "_law_draws" 2 1 F__law_draws := by
    obtain ⟨_, _, f, g⟩ := d__law_draws.has X G
    exact fun base => ok__law_draws f g  b_range b_len b_abs b_int   
  have h__law_next : ∀ base, Df PySem.Challenge.rw_cornersexact_k91_whole_numbers_and_curve.prog w K mg base "_law_next" 2 1 F__law_next := by
    obtain ⟨_, _, f, g⟩ := d__law_next.has X G
    exact fun base => ok__law_next f g  b_len b_int   
  have h_common : ∀ base, Df PySem.Challenge.rw_cornersexact_k91_whole_numbers_and_curve.prog w K mg base "common" 2 1 F_common := by
    obtain ⟨_, _, f, g⟩ := d_common.has X G
    exact fun base => ok_common f g  b_abs   
  have h_fraction : ∀ base, Df PySem.Challenge.rw_cornersexact_k91_whole_numbers_and_curve.prog w K mg base "fraction" 2 2 F_fraction := by
    obtain ⟨_, _, f, g⟩ := d_fraction.has X G
    exact fun base => ok_fraction f g   (h_common base)  
  have h_minus : ∀ base, Df PySem.Challenge.rw_cornersexact_k91_whole_numbers_and_curve.prog w K mg base "minus" 2 3 F_minus := by
    obtain ⟨_, _, f, g⟩ := d_minus.has X G
    exact fun base => ok_minus f g   (h_fraction base)  
  have h_sign_of : ∀ base, Df PySem.Challenge.rw_cornersexact_k91_whole_numbers_and_curve.prog w K mg base "sign_of" 1 1 F_sign_of := by
    obtain ⟨_, _, f, g⟩ := d_sign_of.has X G
    exact fun base => ok_sign_of f g     
  have h_sign : ∀ base, Df PySem.Challenge.rw_cornersexact_k91_whole_numbers_and_curve.prog w K mg base "sign" 1 2 F_sign := by
    obtain ⟨_, _, f, g⟩ := d_sign.has X G
    exact fun base => ok_sign f g   (h_sign_of base)  
  have h_added : ∀ base, Df PySem.Challenge.rw_cornersexact_k91_whole_numbers_and_curve.prog w K mg base "added" 2 3 F_added := by
    obtain ⟨_, _, f, g⟩ := d_added.has X G
    exact fun base => ok_added f g   (h_fraction base)  
  have h_times : ∀ base, Df PySem.Challenge.rw_cornersexact_k91_whole_numbers_and_curve.prog w K mg base "times" 2 3 F_times := by
    obtain ⟨_, _, f, g⟩ := d_times.has X G
    exact fun base => ok_times f g   (h_fraction base)  
  have h_square : ∀ base, Df PySem.Challenge.rw_cornersexact_k91_whole_numbers_and_curve.prog w K mg base "square" 1 1 F_square := by
    obtain ⟨_, _, f, g⟩ := d_square.has X G
    exact fun base => ok_square f g     
  have x_circle : ∀ base, DxN PySem.Challenge.rw_cornersexact_k91_whole_numbers_and_curve.prog w K mg base C "circle" 3 4 FX_circle := by
    obtain ⟨_, _, f, g⟩ := d_circle.has X G
    exact fun base => okx_circle f g   (h_sign base) (h_square base) (h_added base) (h_minus base) (h_times base)  (RA base)
  have h_circle : ∀ base, Df PySem.Challenge.rw_cornersexact_k91_whole_numbers_and_curve.prog w K mg base "circle" 3 4 F_circle := fun base => (x_circle base).df
  have h_over : ∀ base, Df PySem.Challenge.rw_cornersexact_k91_whole_numbers_and_curve.prog w K mg base "over" 2 3 F_over := by
    obtain ⟨_, _, f, g⟩ := d_over.has X G
    exact fun base => ok_over f g   (h_fraction base)  
  have x_line : ∀ base, DxN PySem.Challenge.rw_cornersexact_k91_whole_numbers_and_curve.prog w K mg base C "line" 3 4 FX_line := by
    obtain ⟨_, _, f, g⟩ := d_line.has X G
    exact fun base => okx_line f g k_NOTHING  (h_over base)  (RA base)
  have h_line : ∀ base, Df PySem.Challenge.rw_cornersexact_k91_whole_numbers_and_curve.prog w K mg base "line" 3 4 F_line := fun base => (x_line base).df
  have h__law_curves : ∀ base, Df PySem.Challenge.rw_cornersexact_k91_whole_numbers_and_curve.prog w K mg base "_law_curves" 2 5 F__law_curves := by
    obtain ⟨_, _, f, g⟩ := d__law_curves.has X G
    exact fun base => ok__law_curves f g  b_range (h__law_next base) (h_line base) (h_circle base)  
  have x_circle_through : ∀ base, DxN PySem.Challenge.rw_cornersexact_k91_whole_numbers_and_curve.prog w K mg base C "circle_through" 3 5 FX_circle_through := by
    obtain ⟨_, _, f, g⟩ := d_circle_through.has X G
    exact fun base => okx_circle_through f g k_NOTHING  (h_square base) (h_added base) (h_minus base) (h_times base) (h_over base) (x_circle base) (RA base)
  have h_circle_through : ∀ base, Df PySem.Challenge.rw_cornersexact_k91_whole_numbers_and_curve.prog w K mg base "circle_through" 3 5 F_circle_through := fun base => (x_circle_through base).df
  have h_turned : ∀ base, Df PySem.Challenge.rw_cornersexact_k91_whole_numbers_and_curve.prog w K mg base "turned" 1 1 F_turned := by
    obtain ⟨_, _, f, g⟩ := d_turned.has X G
    exact fun base => ok_turned f g     
  have h_line_through : ∀ base, Df PySem.Challenge.rw_cornersexact_k91_whole_numbers_and_curve.prog w K mg base "line_through" 2 5 F_line_through := by
    obtain ⟨_, _, f, g⟩ := d_line_through.has X G
    exact fun base => ok_line_through f g   (h_minus base) (h_times base) (h_added base) (h_turned base) (h_line base)  
  have h_half : ∀ base, Df PySem.Challenge.rw_cornersexact_k91_whole_numbers_and_curve.prog w K mg base "half" 1 3 F_half := by
    obtain ⟨_, _, f, g⟩ := d_half.has X G
    exact fun base => ok_half f g   (h_fraction base)  
  have h_middle_of : ∀ base, Df PySem.Challenge.rw_cornersexact_k91_whole_numbers_and_curve.prog w K mg base "middle_of" 1 4 F_middle_of := by
    obtain ⟨_, _, f, g⟩ := d_middle_of.has X G
    exact fun base => ok_middle_of f g   (h_turned base) (h_half base)  
  have h__law_plus : ∀ base, Df PySem.Challenge.rw_cornersexact_k91_whole_numbers_and_curve.prog w K mg base "_law_plus" 2 1 F__law_plus := by
    obtain ⟨_, _, f, g⟩ := d__law_plus.has X G
    exact fun base => ok__law_plus f g     
  have h__law_side : ∀ base, Df PySem.Challenge.rw_cornersexact_k91_whole_numbers_and_curve.prog w K mg base "_law_side" 1 1 F__law_side := by
    obtain ⟨_, _, f, g⟩ := d__law_side.has X G
    exact fun base => ok__law_side f g     
  have h__law_by : ∀ base, Df PySem.Challenge.rw_cornersexact_k91_whole_numbers_and_curve.prog w K mg base "_law_by" 2 1 F__law_by := by
    obtain ⟨_, _, f, g⟩ := d__law_by.has X G
    exact fun base => ok__law_by f g     
  have h__law_rooted : ∀ base, Df PySem.Challenge.rw_cornersexact_k91_whole_numbers_and_curve.prog w K mg base "_law_rooted" 3 2 F__law_rooted := by
    obtain ⟨_, _, f, g⟩ := d__law_rooted.has X G
    exact fun base => ok__law_rooted f g   (h__law_side base) (h__law_by base) (h__law_plus base)  
  have h__law_sign : ∀ base, Df PySem.Challenge.rw_cornersexact_k91_whole_numbers_and_curve.prog w K mg base "_law_sign" 2 3 F__law_sign := by
    obtain ⟨_, _, f, g⟩ := d__law_sign.has X G
    exact fun base => ok__law_sign f g   (h__law_by base) (h__law_plus base) (h__law_rooted base)  
  have h_radius_of : ∀ base, Df PySem.Challenge.rw_cornersexact_k91_whole_numbers_and_curve.prog w K mg base "radius_of" 1 5 F_radius_of := by
    obtain ⟨_, _, f, g⟩ := d_radius_of.has X G
    exact fun base => ok_radius_of f g   (h_middle_of base) (h_square base) (h_added base) (h_minus base)  
  have h_is_number : ∀ base, Df PySem.Challenge.rw_cornersexact_k91_whole_numbers_and_curve.prog w K mg base "is_number" 1 1 F_is_number := by
    obtain ⟨_, _, f, g⟩ := d_is_number.has X G
    exact fun base => ok_is_number f g  b_isinstance b_int b_bool   
  have h_is_fraction : ∀ base, Df PySem.Challenge.rw_cornersexact_k91_whole_numbers_and_curve.prog w K mg base "is_fraction" 1 2 F_is_fraction := by
    obtain ⟨_, _, f, g⟩ := d_is_fraction.has X G
    exact fun base => ok_is_fraction f g  b_isinstance b_tuple b_len (h_is_number base) (h_common base)  
  have h_is_curve : ∀ base, Df PySem.Challenge.rw_cornersexact_k91_whole_numbers_and_curve.prog w K mg base "is_curve" 1 6 F_is_curve := by
    obtain ⟨_, _, f, g⟩ := d_is_curve.has X G
    exact fun base => ok_is_curve f g k_NOTHING b_isinstance b_tuple b_len b_all b_bool b_int (h_is_fraction base) (h_radius_of base) (h_sign base)  
  have h_plain : ∀ base, Df PySem.Challenge.rw_cornersexact_k91_whole_numbers_and_curve.prog w K mg base "plain" 1 1 F_plain := by
    obtain ⟨_, _, f, g⟩ := d_plain.has X G
    exact fun base => ok_plain f g k_NOTHING    
  have h_point_of : ∀ base, Df PySem.Challenge.rw_cornersexact_k91_whole_numbers_and_curve.prog w K mg base "point_of" 2 2 F_point_of := by
    obtain ⟨_, _, f, g⟩ := d_point_of.has X G
    exact fun base => ok_point_of f g   (h_plain base)  
  have h_whole_root : ∀ base, Df PySem.Challenge.rw_cornersexact_k91_whole_numbers_and_curve.prog w K mg base "whole_root" 1 1 F_whole_root := by
    obtain ⟨_, _, f, g⟩ := d_whole_root.has X G
    exact fun base => ok_whole_root f g     
  have h_tidy : ∀ base, Df PySem.Challenge.rw_cornersexact_k91_whole_numbers_and_curve.prog w K mg base "tidy" 3 4 F_tidy := by
    obtain ⟨_, _, f, g⟩ := d_tidy.has X G
    exact fun base => ok_tidy f g k_NOTHING  (h_plain base) (h_whole_root base) (h_times base) (h_added base)  
  have h_turns_of : ∀ base, Df PySem.Challenge.rw_cornersexact_k91_whole_numbers_and_curve.prog w K mg base "turns_of" 1 6 F_turns_of := by
    obtain ⟨_, _, f, g⟩ := d_turns_of.has X G
    exact fun base => ok_turns_of f g   (h_middle_of base) (h_radius_of base) (h_tidy base) (h_plain base)  
  have h_sign_of_root : ∀ base, Df PySem.Challenge.rw_cornersexact_k91_whole_numbers_and_curve.prog w K mg base "sign_of_root" 1 4 F_sign_of_root := by
    obtain ⟨_, _, f, g⟩ := d_sign_of_root.has X G
    exact fun base => ok_sign_of_root f g k_NOTHING  (h_sign base) (h_square base) (h_times base) (h_minus base)  
  have h_added_root : ∀ base, Df PySem.Challenge.rw_cornersexact_k91_whole_numbers_and_curve.prog w K mg base "added_root" 2 5 F_added_root := by
    obtain ⟨_, _, f, g⟩ := d_added_root.has X G
    exact fun base => ok_added_root f g k_NOTHING  (h_added base) (h_tidy base)  
  have h_by_fraction : ∀ base, Df PySem.Challenge.rw_cornersexact_k91_whole_numbers_and_curve.prog w K mg base "by_fraction" 2 5 F_by_fraction := by
    obtain ⟨_, _, f, g⟩ := d_by_fraction.has X G
    exact fun base => ok_by_fraction f g   (h_times base) (h_tidy base)  
  have h_times_root : ∀ base, Df PySem.Challenge.rw_cornersexact_k91_whole_numbers_and_curve.prog w K mg base "times_root" 2 5 F_times_root := by
    obtain ⟨_, _, f, g⟩ := d_times_root.has X G
    exact fun base => ok_times_root f g k_NOTHING  (h_times base) (h_added base) (h_tidy base)  
  have h_value_at : ∀ base, Df PySem.Challenge.rw_cornersexact_k91_whole_numbers_and_curve.prog w K mg base "value_at" 2 6 F_value_at := by
    obtain ⟨_, _, f, g⟩ := d_value_at.has X G
    exact fun base => ok_value_at f g   (h_by_fraction base) (h_added_root base) (h_plain base) (h_times_root base)  
  have h_sign_at : ∀ base, Df PySem.Challenge.rw_cornersexact_k91_whole_numbers_and_curve.prog w K mg base "sign_at" 2 7 F_sign_at := by
    obtain ⟨_, _, f, g⟩ := d_sign_at.has X G
    exact fun base => ok_sign_at f g   (h_value_at base) (h_sign_of_root base)  
  have h__law_made : ∀ base, Df PySem.Challenge.rw_cornersexact_k91_whole_numbers_and_curve.prog w K mg base "_law_made" 2 8 F__law_made := by
    obtain ⟨_, _, f, g⟩ := d__law_made.has X G
    exact fun base => ok__law_made f g  b_len b_range (h_is_curve base) (h_turns_of base) (h__law_sign base) (h_middle_of base) (h_radius_of base) (h_circle base) (h_point_of base) (h_sign_at base) (h__law_next base) (h_line_through base) (x_circle_through base) TU
  have h__law_least : ∀ base, Df PySem.Challenge.rw_cornersexact_k91_whole_numbers_and_curve.prog w K mg base "_law_least" 1 1 F__law_least := by
    obtain ⟨_, _, f, g⟩ := d__law_least.has X G
    exact fun base => ok__law_least f g     
  have h_is_less : ∀ base, Df PySem.Challenge.rw_cornersexact_k91_whole_numbers_and_curve.prog w K mg base "is_less" 2 1 F_is_less := by
    obtain ⟨_, _, f, g⟩ := d_is_less.has X G
    exact fun base => ok_is_less f g     
  have h_middle : ∀ base, Df PySem.Challenge.rw_cornersexact_k91_whole_numbers_and_curve.prog w K mg base "middle" 2 4 F_middle := by
    obtain ⟨_, _, f, g⟩ := d_middle.has X G
    exact fun base => ok_middle f g   (h_added base) (h_half base)  
  have h_sum_of : ∀ base, Df PySem.Challenge.rw_cornersexact_k91_whole_numbers_and_curve.prog w K mg base "sum_of" 1 4 F_sum_of := by
    obtain ⟨_, _, f, g⟩ := d_sum_of.has X G
    exact fun base => ok_sum_of f g k_NOTHING  (h_added base)  
  have h_whole : ∀ base, Df PySem.Challenge.rw_cornersexact_k91_whole_numbers_and_curve.prog w K mg base "whole" 1 1 F_whole := by
    obtain ⟨_, _, f, g⟩ := d_whole.has X G
    exact fun base => ok_whole f g     
  have h_floor : ∀ base, Df PySem.Challenge.rw_cornersexact_k91_whole_numbers_and_curve.prog w K mg base "floor" 1 1 F_floor := by
    obtain ⟨_, _, f, g⟩ := d_floor.has X G
    exact fun base => ok_floor f g     
  have h__law_same : ∀ base, Df PySem.Challenge.rw_cornersexact_k91_whole_numbers_and_curve.prog w K mg base "_law_same" 2 1 F__law_same := by
    obtain ⟨_, _, f, g⟩ := d__law_same.has X G
    exact fun base => ok__law_same f g     
  have h__law_fractions : ∀ base, Df PySem.Challenge.rw_cornersexact_k91_whole_numbers_and_curve.prog w K mg base "_law_fractions" 1 5 F__law_fractions := by
    obtain ⟨_, _, f, g⟩ := d__law_fractions.has X G
    exact fun base => ok__law_fractions f g   (h__law_next base) (h_fraction base) (h__law_by base) (h_added base) (h__law_plus base) (h_minus base) (h_times base) (h_square base) (h_half base) (h_turned base) (h_middle base) (h_sum_of base) (h_whole base) (h_over base) (h_is_fraction base) (h__law_same base) (h_sign base) (h__law_side base) (h_is_less base) (h_floor base)  
  have h_sign_of_two : ∀ base, Df PySem.Challenge.rw_cornersexact_k91_whole_numbers_and_curve.prog w K mg base "sign_of_two" 5 5 F_sign_of_two := by
    obtain ⟨_, _, f, g⟩ := d_sign_of_two.has X G
    exact fun base => ok_sign_of_two f g k_NOTHING  (h_sign_of_root base) (h_sign base) (h_square base) (h_times base) (h_sum_of base) (h_minus base)  
  have h_compare : ∀ base, Df PySem.Challenge.rw_cornersexact_k91_whole_numbers_and_curve.prog w K mg base "compare" 2 6 F_compare := by
    obtain ⟨_, _, f, g⟩ := d_compare.has X G
    exact fun base => ok_compare f g   (h_minus base) (h_turned base) (h_sign_of_two base)  
  have h_sorted_roots : ∀ base, Df PySem.Challenge.rw_cornersexact_k91_whole_numbers_and_curve.prog w K mg base "sorted_roots" 1 7 F_sorted_roots := by
    obtain ⟨_, _, f, g⟩ := d_sorted_roots.has X G
    exact fun base => ok_sorted_roots f g  b_len b_tuple (h_compare base)  
  have h_turned_root : ∀ base, Df PySem.Challenge.rw_cornersexact_k91_whole_numbers_and_curve.prog w K mg base "turned_root" 1 2 F_turned_root := by
    obtain ⟨_, _, f, g⟩ := d_turned_root.has X G
    exact fun base => ok_turned_root f g   (h_turned base)  
  have h_minus_root : ∀ base, Df PySem.Challenge.rw_cornersexact_k91_whole_numbers_and_curve.prog w K mg base "minus_root" 2 6 F_minus_root := by
    obtain ⟨_, _, f, g⟩ := d_minus_root.has X G
    exact fun base => ok_minus_root f g   (h_turned_root base) (h_added_root base)  
  have h_over_root : ∀ base, Df PySem.Challenge.rw_cornersexact_k91_whole_numbers_and_curve.prog w K mg base "over_root" 2 6 F_over_root := by
    obtain ⟨_, _, f, g⟩ := d_over_root.has X G
    exact fun base => ok_over_root f g   (h_square base) (h_times base) (h_minus base) (h_over base) (h_turned base) (h_tidy base) (h_times_root base)  
  have h_root_of : ∀ base, Df PySem.Challenge.rw_cornersexact_k91_whole_numbers_and_curve.prog w K mg base "root_of" 1 5 F_root_of := by
    obtain ⟨_, _, f, g⟩ := d_root_of.has X G
    exact fun base => ok_root_of f g k_NOTHING k_WHOLE  (h_tidy base)  
  have h_is_root : ∀ base, Df PySem.Challenge.rw_cornersexact_k91_whole_numbers_and_curve.prog w K mg base "is_root" 1 3 F_is_root := by
    obtain ⟨_, _, f, g⟩ := d_is_root.has X G
    exact fun base => ok_is_root f g k_NOTHING b_isinstance b_tuple b_len b_all (h_is_fraction base)  
  have h__law_sums : ∀ base, Df PySem.Challenge.rw_cornersexact_k91_whole_numbers_and_curve.prog w K mg base "_law_sums" 1 7 F__law_sums := by
    obtain ⟨_, _, f, g⟩ := d__law_sums.has X G
    exact fun base => ok__law_sums f g  b_range (h__law_next base) (h_fraction base) (h_tidy base) (h_added_root base) (h__law_plus base) (h_minus_root base) (h__law_by base) (h_times_root base) (h_by_fraction base) (h_over_root base) (h_is_root base) (h__law_same base) (h_root_of base) (h_plain base) (h_sign_of_root base)  
  have h__law_root : ∀ base, Df PySem.Challenge.rw_cornersexact_k91_whole_numbers_and_curve.prog w K mg base "_law_root" 1 5 F__law_root := by
    obtain ⟨_, _, f, g⟩ := d__law_root.has X G
    exact fun base => ok__law_root f g  b_range (h__law_next base) (h_fraction base) (h_tidy base)  
  have h_bound_of : ∀ base, Df PySem.Challenge.rw_cornersexact_k91_whole_numbers_and_curve.prog w K mg base "bound_of" 1 4 F_bound_of := by
    obtain ⟨_, _, f, g⟩ := d_bound_of.has X G
    exact fun base => ok_bound_of f g  b_abs (h_square base) (h_times base)  
  have h_floor_of : ∀ base, Df PySem.Challenge.rw_cornersexact_k91_whole_numbers_and_curve.prog w K mg base "floor_of" 1 7 F_floor_of := by
    obtain ⟨_, _, f, g⟩ := d_floor_of.has X G
    exact fun base => ok_floor_of f g   (h_bound_of base) (h_whole base) (h_plain base) (h_compare base)  
  have h_rounded : ∀ base, Df PySem.Challenge.rw_cornersexact_k91_whole_numbers_and_curve.prog w K mg base "rounded" 2 8 F_rounded := by
    obtain ⟨_, _, f, g⟩ := d_rounded.has X G
    exact fun base => ok_rounded f g  b_range (h_whole base) (h_by_fraction base) (h_fraction base) (h_plain base) (h_minus_root base) (h_floor_of base)  
  have h_digits_of : ∀ base, Df PySem.Challenge.rw_cornersexact_k91_whole_numbers_and_curve.prog w K mg base "digits_of" 2 9 F_digits_of := by
    obtain ⟨_, _, f, g⟩ := d_digits_of.has X G
    exact fun base => ok_digits_of f g  b_str b_abs b_len (h_rounded base)  
  have h_near_by : ∀ base, Df PySem.Challenge.rw_cornersexact_k91_whole_numbers_and_curve.prog w K mg base "near_by" 2 8 F_near_by := by
    obtain ⟨_, _, f, g⟩ := d_near_by.has X G
    exact fun base => ok_near_by f g   (h_whole base) (h_by_fraction base) (h_floor_of base) (h_fraction base)  
  have h_rank_of : ∀ base, Df PySem.Challenge.rw_cornersexact_k91_whole_numbers_and_curve.prog w K mg base "rank_of" 2 7 F_rank_of := by
    obtain ⟨_, _, f, g⟩ := d_rank_of.has X G
    exact fun base => ok_rank_of f g   (h_compare base)  
  have h__law_gap : ∀ base, Df PySem.Challenge.rw_cornersexact_k91_whole_numbers_and_curve.prog w K mg base "_law_gap" 2 3 F__law_gap := by
    obtain ⟨_, _, f, g⟩ := d__law_gap.has X G
    exact fun base => ok__law_gap f g   (h__law_by base) (h__law_plus base) (h__law_rooted base)  
  have h_between : ∀ base, Df PySem.Challenge.rw_cornersexact_k91_whole_numbers_and_curve.prog w K mg base "between" 2 8 F_between := by
    obtain ⟨_, _, f, g⟩ := d_between.has X G
    exact fun base => ok_between f g   (h_whole base) (h_by_fraction base) (h_floor_of base) (h_fraction base) (h_plain base) (h_compare base)  
  have h_least_of : ∀ base, Df PySem.Challenge.rw_cornersexact_k91_whole_numbers_and_curve.prog w K mg base "least_of" 1 7 F_least_of := by
    obtain ⟨_, _, f, g⟩ := d_least_of.has X G
    exact fun base => ok_least_of f g   (h_compare base)  
  have h_greatest_of : ∀ base, Df PySem.Challenge.rw_cornersexact_k91_whole_numbers_and_curve.prog w K mg base "greatest_of" 1 7 F_greatest_of := by
    obtain ⟨_, _, f, g⟩ := d_greatest_of.has X G
    exact fun base => ok_greatest_of f g   (h_compare base)  
  have h__law_roots : ∀ base, Df PySem.Challenge.rw_cornersexact_k91_whole_numbers_and_curve.prog w K mg base "_law_roots" 1 10 F__law_roots := by
    obtain ⟨_, _, f, g⟩ := d__law_roots.has X G
    exact fun base => ok__law_roots f g  b_range b_int b_abs b_len b_sorted (h__law_root base) (h_near_by base) (h_plain base) (h__law_gap base) (h__law_plus base) (h_digits_of base) (h_fraction base) (h_rounded base) (h_floor_of base) (h_compare base) (h_is_root base) (h_sign_of_root base) (h__law_rooted base) (h_sorted_roots base) (h_least_of base) (h_greatest_of base) (h_rank_of base) (h_between base) (h__law_sums base)  
  have h__law_spot : ∀ base, Df PySem.Challenge.rw_cornersexact_k91_whole_numbers_and_curve.prog w K mg base "_law_spot" 1 2 F__law_spot := by
    obtain ⟨_, _, f, g⟩ := d__law_spot.has X G
    exact fun base => ok__law_spot f g   (h__law_next base)  
  have h_compare_points : ∀ base, Df PySem.Challenge.rw_cornersexact_k91_whole_numbers_and_curve.prog w K mg base "compare_points" 2 7 F_compare_points := by
    obtain ⟨_, _, f, g⟩ := d_compare_points.has X G
    exact fun base => ok_compare_points f g   (h_compare base)  
  have h_in_order : ∀ base, Df PySem.Challenge.rw_cornersexact_k91_whole_numbers_and_curve.prog w K mg base "in_order" 1 8 F_in_order := by
    obtain ⟨_, _, f, g⟩ := d_in_order.has X G
    exact fun base => ok_in_order f g  b_len (h_compare_points base)  
  have h_of_lines : ∀ base, Df PySem.Challenge.rw_cornersexact_k91_whole_numbers_and_curve.prog w K mg base "of_lines" 2 4 F_of_lines := by
    obtain ⟨_, _, f, g⟩ := d_of_lines.has X G
    exact fun base => ok_of_lines f g k_NOTHING  (h_times base) (h_minus base) (h_over base) (h_plain base)  
  have h_is_upright : ∀ base, Df PySem.Challenge.rw_cornersexact_k91_whole_numbers_and_curve.prog w K mg base "is_upright" 1 1 F_is_upright := by
    obtain ⟨_, _, f, g⟩ := d_is_upright.has X G
    exact fun base => ok_is_upright f g k_NOTHING    
  have h_both_roots : ∀ base, Df PySem.Challenge.rw_cornersexact_k91_whole_numbers_and_curve.prog w K mg base "both_roots" 3 5 F_both_roots := by
    obtain ⟨_, _, f, g⟩ := d_both_roots.has X G
    exact fun base => ok_both_roots f g k_NOTHING  (h_square base) (h_times base) (h_minus base) (h_sign base) (h_turned base) (h_over base) (h_plain base) (h_tidy base)  
  have h_of_line_and_circle : ∀ base, Df PySem.Challenge.rw_cornersexact_k91_whole_numbers_and_curve.prog w K mg base "of_line_and_circle" 2 6 F_of_line_and_circle := by
    obtain ⟨_, _, f, g⟩ := d_of_line_and_circle.has X G
    exact fun base => ok_of_line_and_circle f g   (h_is_upright base) (h_turned base) (h_square base) (h_times base) (h_sum_of base) (h_both_roots base) (h_plain base) (h_over base) (h_added base) (h_by_fraction base) (h_added_root base)  
  have h_same_power : ∀ base, Df PySem.Challenge.rw_cornersexact_k91_whole_numbers_and_curve.prog w K mg base "same_power" 2 4 F_same_power := by
    obtain ⟨_, _, f, g⟩ := d_same_power.has X G
    exact fun base => ok_same_power f g k_NOTHING  (h_minus base) (h_over base)  
  have h_meets : ∀ base, Df PySem.Challenge.rw_cornersexact_k91_whole_numbers_and_curve.prog w K mg base "meets" 2 9 F_meets := by
    obtain ⟨_, _, f, g⟩ := d_meets.has X G
    exact fun base => ok_meets f g   (h_of_lines base) (h_of_line_and_circle base) (h_same_power base) (h_in_order base)  
  have h_touch_kind : ∀ base, Df PySem.Challenge.rw_cornersexact_k91_whole_numbers_and_curve.prog w K mg base "touch_kind" 2 6 F_touch_kind := by
    obtain ⟨_, _, f, g⟩ := d_touch_kind.has X G
    exact fun base => ok_touch_kind f g   (h_middle_of base) (h_minus base) (h_square base) (h_added base) (h_radius_of base) (h_times base) (h_sign base)  
  have h__law_meet : ∀ base, Df PySem.Challenge.rw_cornersexact_k91_whole_numbers_and_curve.prog w K mg base "_law_meet" 2 10 F__law_meet := by
    obtain ⟨_, _, f, g⟩ := d__law_meet.has X G
    exact fun base => ok__law_meet f g  b_range b_len (h_meets base) (h_compare_points base) (h__law_sign base) (h_is_root base) (h_middle_of base) (h__law_plus base) (h__law_by base) (h_radius_of base) (h__law_rooted base) (h__law_side base) (h_touch_kind base)  
  obtain ⟨f, _, _, _, _, _, _, _, _, _, a, l, c, k⟩ := d_law
  have e := hfa.symm.trans (PySem.W.mg_of X G a)
  cases e
  exact ⟨_, fun s v => .of_eq rfl, fun base _ _ => ok_law (fun_mk (st := s_law) l c k)  b_range b_len (h__law_draws base) (h__law_fractions base) (h__law_roots base) (h__law_curves base) (h__law_meet base) (h__law_made base) (h__law_next base) (h_line base) (h__law_spot base) (h__law_least base) (h__law_by base) (h__law_plus base) (h__law_sign base) (h__law_side base) hd hs⟩

end Pl
open PySem PySem.W PyProof.Rows in
set_option maxRecDepth 100000 in
set_option maxHeartbeats 0 in
theorem PySem.Challenge.cw_cornersexact_k91_whole_numbers_and_curve_holds : PySem.Challenge.rw_cornersexact_k91_whole_numbers_and_curve.Holds := by
  w_on; o_law; k_head; (case hw => w_witness2)
  k_fill
  refine L2.walk_of (l := PySem.Challenge.rw_cornersexact_k91_whole_numbers_and_curve) (n := 63) (k := 11) (x := "script") (CX := fun _ => L2.CX0) (sp := fun w => Pl.spLaw _) rfl (by decide) rfl ⟨rfl, by decide, by decide⟩ (fun w h Y => PySem.W.kIn_of Y) ?F (fun _ _ a ns hl ho hS => ⟨a, ns, rfl, Pl.scl_of ho hS, hl, fun _ => rfl⟩) (fun _ _ _ _ _ h => h)
  case F =>
    intro w mg fa h KX G hmg
    refine' Pl.all_mk KX G hmg ?d__law_draws ?d__law_next ?d_common ?d_fraction ?d_minus ?d_sign_of ?d_sign ?d_added ?d_times ?d_square ?d_circle ?d_over ?d_line ?d__law_curves ?d_circle_through ?d_turned ?d_line_through ?d_half ?d_middle_of ?d__law_plus ?d__law_side ?d__law_by ?d__law_rooted ?d__law_sign ?d_radius_of ?d_is_number ?d_is_fraction ?d_is_curve ?d_plain ?d_point_of ?d_whole_root ?d_tidy ?d_turns_of ?d_sign_of_root ?d_added_root ?d_by_fraction ?d_times_root ?d_value_at ?d_sign_at ?d__law_made ?d__law_least ?d_is_less ?d_middle ?d_sum_of ?d_whole ?d_floor ?d__law_same ?d__law_fractions ?d_sign_of_two ?d_compare ?d_sorted_roots ?d_turned_root ?d_minus_root ?d_over_root ?d_root_of ?d_is_root ?d__law_sums ?d__law_root ?d_bound_of ?d_floor_of ?d_rounded ?d_digits_of ?d_near_by ?d_rank_of ?d__law_gap ?d_between ?d_least_of ?d_greatest_of ?d__law_roots ?d__law_spot ?d_compare_points ?d_in_order ?d_of_lines ?d_is_upright ?d_both_roots ?d_of_line_and_circle ?d_same_power ?d_meets ?d_touch_kind ?d__law_meet ?d_law ?c_NOTHING ?c_WHOLE ?z_range ?z_len ?z_abs ?z_int ?z_isinstance ?z_bool ?z_tuple ?z_all ?z_str ?z_sorted ?RA ?TU Pl.hd_law91 Pl.hs_law91
    (case d__law_draws => refine' Pl.defAt ?a ?l ?c ?k; (case a => k_is); (case l => k_is); (case c => k_is); (case k => k_is))
    (case d__law_next => refine' Pl.defAt ?a ?l ?c ?k; (case a => k_is); (case l => k_is); (case c => k_is); (case k => k_is))
    (case d_common => refine' Pl.defAt ?a ?l ?c ?k; (case a => k_is); (case l => k_is); (case c => k_is); (case k => k_is))
    (case d_fraction => refine' Pl.defAt ?a ?l ?c ?k; (case a => k_is); (case l => k_is); (case c => k_is); (case k => k_is))
    (case d_minus => refine' Pl.defAt ?a ?l ?c ?k; (case a => k_is); (case l => k_is); (case c => k_is); (case k => k_is))
    (case d_sign_of => refine' Pl.defAt ?a ?l ?c ?k; (case a => k_is); (case l => k_is); (case c => k_is); (case k => k_is))
    (case d_sign => refine' Pl.defAt ?a ?l ?c ?k; (case a => k_is); (case l => k_is); (case c => k_is); (case k => k_is))
    (case d_added => refine' Pl.defAt ?a ?l ?c ?k; (case a => k_is); (case l => k_is); (case c => k_is); (case k => k_is))
    (case d_times => refine' Pl.defAt ?a ?l ?c ?k; (case a => k_is); (case l => k_is); (case c => k_is); (case k => k_is))
    (case d_square => refine' Pl.defAt ?a ?l ?c ?k; (case a => k_is); (case l => k_is); (case c => k_is); (case k => k_is))
    (case d_circle => refine' Pl.defAt ?a ?l ?c ?k; (case a => k_is); (case l => k_is); (case c => k_is); (case k => k_is))
    (case d_over => refine' Pl.defAt ?a ?l ?c ?k; (case a => k_is); (case l => k_is); (case c => k_is); (case k => k_is))
    (case d_line => refine' Pl.defAt ?a ?l ?c ?k; (case a => k_is); (case l => k_is); (case c => k_is); (case k => k_is))
    (case d__law_curves => refine' Pl.defAt ?a ?l ?c ?k; (case a => k_is); (case l => k_is); (case c => k_is); (case k => k_is))
    (case d_circle_through => refine' Pl.defAt ?a ?l ?c ?k; (case a => k_is); (case l => k_is); (case c => k_is); (case k => k_is))
    (case d_turned => refine' Pl.defAt ?a ?l ?c ?k; (case a => k_is); (case l => k_is); (case c => k_is); (case k => k_is))
    (case d_line_through => refine' Pl.defAt ?a ?l ?c ?k; (case a => k_is); (case l => k_is); (case c => k_is); (case k => k_is))
    (case d_half => refine' Pl.defAt ?a ?l ?c ?k; (case a => k_is); (case l => k_is); (case c => k_is); (case k => k_is))
    (case d_middle_of => refine' Pl.defAt ?a ?l ?c ?k; (case a => k_is); (case l => k_is); (case c => k_is); (case k => k_is))
    (case d__law_plus => refine' Pl.defAt ?a ?l ?c ?k; (case a => k_is); (case l => k_is); (case c => k_is); (case k => k_is))
    (case d__law_side => refine' Pl.defAt ?a ?l ?c ?k; (case a => k_is); (case l => k_is); (case c => k_is); (case k => k_is))
    (case d__law_by => refine' Pl.defAt ?a ?l ?c ?k; (case a => k_is); (case l => k_is); (case c => k_is); (case k => k_is))
    (case d__law_rooted => refine' Pl.defAt ?a ?l ?c ?k; (case a => k_is); (case l => k_is); (case c => k_is); (case k => k_is))
    (case d__law_sign => refine' Pl.defAt ?a ?l ?c ?k; (case a => k_is); (case l => k_is); (case c => k_is); (case k => k_is))
    (case d_radius_of => refine' Pl.defAt ?a ?l ?c ?k; (case a => k_is); (case l => k_is); (case c => k_is); (case k => k_is))
    (case d_is_number => refine' Pl.defAt ?a ?l ?c ?k; (case a => k_is); (case l => k_is); (case c => k_is); (case k => k_is))
    (case d_is_fraction => refine' Pl.defAt ?a ?l ?c ?k; (case a => k_is); (case l => k_is); (case c => k_is); (case k => k_is))
    (case d_is_curve => refine' Pl.defAt ?a ?l ?c ?k; (case a => k_is); (case l => k_is); (case c => k_is); (case k => k_is))
    (case d_plain => refine' Pl.defAt ?a ?l ?c ?k; (case a => k_is); (case l => k_is); (case c => k_is); (case k => k_is))
    (case d_point_of => refine' Pl.defAt ?a ?l ?c ?k; (case a => k_is); (case l => k_is); (case c => k_is); (case k => k_is))
    (case d_whole_root => refine' Pl.defAt ?a ?l ?c ?k; (case a => k_is); (case l => k_is); (case c => k_is); (case k => k_is))
    (case d_tidy => refine' Pl.defAt ?a ?l ?c ?k; (case a => k_is); (case l => k_is); (case c => k_is); (case k => k_is))
    (case d_turns_of => refine' Pl.defAt ?a ?l ?c ?k; (case a => k_is); (case l => k_is); (case c => k_is); (case k => k_is))
    (case d_sign_of_root => refine' Pl.defAt ?a ?l ?c ?k; (case a => k_is); (case l => k_is); (case c => k_is); (case k => k_is))
    (case d_added_root => refine' Pl.defAt ?a ?l ?c ?k; (case a => k_is); (case l => k_is); (case c => k_is); (case k => k_is))
    (case d_by_fraction => refine' Pl.defAt ?a ?l ?c ?k; (case a => k_is); (case l => k_is); (case c => k_is); (case k => k_is))
    (case d_times_root => refine' Pl.defAt ?a ?l ?c ?k; (case a => k_is); (case l => k_is); (case c => k_is); (case k => k_is))
    (case d_value_at => refine' Pl.defAt ?a ?l ?c ?k; (case a => k_is); (case l => k_is); (case c => k_is); (case k => k_is))
    (case d_sign_at => refine' Pl.defAt ?a ?l ?c ?k; (case a => k_is); (case l => k_is); (case c => k_is); (case k => k_is))
    (case d__law_made => refine' Pl.defAt ?a ?l ?c ?k; (case a => k_is); (case l => k_is); (case c => k_is); (case k => k_is))
    (case d__law_least => refine' Pl.defAt ?a ?l ?c ?k; (case a => k_is); (case l => k_is); (case c => k_is); (case k => k_is))
    (case d_is_less => refine' Pl.defAt ?a ?l ?c ?k; (case a => k_is); (case l => k_is); (case c => k_is); (case k => k_is))
    (case d_middle => refine' Pl.defAt ?a ?l ?c ?k; (case a => k_is); (case l => k_is); (case c => k_is); (case k => k_is))
    (case d_sum_of => refine' Pl.defAt ?a ?l ?c ?k; (case a => k_is); (case l => k_is); (case c => k_is); (case k => k_is))
    (case d_whole => refine' Pl.defAt ?a ?l ?c ?k; (case a => k_is); (case l => k_is); (case c => k_is); (case k => k_is))
    (case d_floor => refine' Pl.defAt ?a ?l ?c ?k; (case a => k_is); (case l => k_is); (case c => k_is); (case k => k_is))
    (case d__law_same => refine' Pl.defAt ?a ?l ?c ?k; (case a => k_is); (case l => k_is); (case c => k_is); (case k => k_is))
    (case d__law_fractions => refine' Pl.defAt ?a ?l ?c ?k; (case a => k_is); (case l => k_is); (case c => k_is); (case k => k_is))
    (case d_sign_of_two => refine' Pl.defAt ?a ?l ?c ?k; (case a => k_is); (case l => k_is); (case c => k_is); (case k => k_is))
    (case d_compare => refine' Pl.defAt ?a ?l ?c ?k; (case a => k_is); (case l => k_is); (case c => k_is); (case k => k_is))
    (case d_sorted_roots => refine' Pl.defAt ?a ?l ?c ?k; (case a => k_is); (case l => k_is); (case c => k_is); (case k => k_is))
    (case d_turned_root => refine' Pl.defAt ?a ?l ?c ?k; (case a => k_is); (case l => k_is); (case c => k_is); (case k => k_is))
    (case d_minus_root => refine' Pl.defAt ?a ?l ?c ?k; (case a => k_is); (case l => k_is); (case c => k_is); (case k => k_is))
    (case d_over_root => refine' Pl.defAt ?a ?l ?c ?k; (case a => k_is); (case l => k_is); (case c => k_is); (case k => k_is))
    (case d_root_of => refine' Pl.defAt ?a ?l ?c ?k; (case a => k_is); (case l => k_is); (case c => k_is); (case k => k_is))
    (case d_is_root => refine' Pl.defAt ?a ?l ?c ?k; (case a => k_is); (case l => k_is); (case c => k_is); (case k => k_is))
    (case d__law_sums => refine' Pl.defAt ?a ?l ?c ?k; (case a => k_is); (case l => k_is); (case c => k_is); (case k => k_is))
    (case d__law_root => refine' Pl.defAt ?a ?l ?c ?k; (case a => k_is); (case l => k_is); (case c => k_is); (case k => k_is))
    (case d_bound_of => refine' Pl.defAt ?a ?l ?c ?k; (case a => k_is); (case l => k_is); (case c => k_is); (case k => k_is))
    (case d_floor_of => refine' Pl.defAt ?a ?l ?c ?k; (case a => k_is); (case l => k_is); (case c => k_is); (case k => k_is))
    (case d_rounded => refine' Pl.defAt ?a ?l ?c ?k; (case a => k_is); (case l => k_is); (case c => k_is); (case k => k_is))
    (case d_digits_of => refine' Pl.defAt ?a ?l ?c ?k; (case a => k_is); (case l => k_is); (case c => k_is); (case k => k_is))
    (case d_near_by => refine' Pl.defAt ?a ?l ?c ?k; (case a => k_is); (case l => k_is); (case c => k_is); (case k => k_is))
    (case d_rank_of => refine' Pl.defAt ?a ?l ?c ?k; (case a => k_is); (case l => k_is); (case c => k_is); (case k => k_is))
    (case d__law_gap => refine' Pl.defAt ?a ?l ?c ?k; (case a => k_is); (case l => k_is); (case c => k_is); (case k => k_is))
    (case d_between => refine' Pl.defAt ?a ?l ?c ?k; (case a => k_is); (case l => k_is); (case c => k_is); (case k => k_is))
    (case d_least_of => refine' Pl.defAt ?a ?l ?c ?k; (case a => k_is); (case l => k_is); (case c => k_is); (case k => k_is))
    (case d_greatest_of => refine' Pl.defAt ?a ?l ?c ?k; (case a => k_is); (case l => k_is); (case c => k_is); (case k => k_is))
    (case d__law_roots => refine' Pl.defAt ?a ?l ?c ?k; (case a => k_is); (case l => k_is); (case c => k_is); (case k => k_is))
    (case d__law_spot => refine' Pl.defAt ?a ?l ?c ?k; (case a => k_is); (case l => k_is); (case c => k_is); (case k => k_is))
    (case d_compare_points => refine' Pl.defAt ?a ?l ?c ?k; (case a => k_is); (case l => k_is); (case c => k_is); (case k => k_is))
    (case d_in_order => refine' Pl.defAt ?a ?l ?c ?k; (case a => k_is); (case l => k_is); (case c => k_is); (case k => k_is))
    (case d_of_lines => refine' Pl.defAt ?a ?l ?c ?k; (case a => k_is); (case l => k_is); (case c => k_is); (case k => k_is))
    (case d_is_upright => refine' Pl.defAt ?a ?l ?c ?k; (case a => k_is); (case l => k_is); (case c => k_is); (case k => k_is))
    (case d_both_roots => refine' Pl.defAt ?a ?l ?c ?k; (case a => k_is); (case l => k_is); (case c => k_is); (case k => k_is))
    (case d_of_line_and_circle => refine' Pl.defAt ?a ?l ?c ?k; (case a => k_is); (case l => k_is); (case c => k_is); (case k => k_is))
    (case d_same_power => refine' Pl.defAt ?a ?l ?c ?k; (case a => k_is); (case l => k_is); (case c => k_is); (case k => k_is))
    (case d_meets => refine' Pl.defAt ?a ?l ?c ?k; (case a => k_is); (case l => k_is); (case c => k_is); (case k => k_is))
    (case d_touch_kind => refine' Pl.defAt ?a ?l ?c ?k; (case a => k_is); (case l => k_is); (case c => k_is); (case k => k_is))
    (case d__law_meet => refine' Pl.defAt ?a ?l ?c ?k; (case a => k_is); (case l => k_is); (case c => k_is); (case k => k_is))
    (case d_law => refine' Pl.defAt ?a ?l ?c ?k; (case a => k_is); (case l => k_is); (case c => k_is); (case k => k_is))
    (case c_NOTHING => refine' Pl.cstAt ?a ?l; (case a => k_is); (case l => k_is))
    (case c_WHOLE => refine' Pl.cstAt ?a ?l; (case a => k_is); (case l => k_is))
    (case z_range => k_is)
    (case z_len => k_is)
    (case z_abs => k_is)
    (case z_int => k_is)
    (case z_isinstance => k_is)
    (case z_bool => k_is)
    (case z_tuple => k_is)
    (case z_all => k_is)
    (case z_str => k_is)
    (case z_sorted => k_is)
    (case RA => refine' Pl.raiseAtN KX G ?a ?i ?l ?cl ?hbm ?sa ?exC ?tyC ?kC ?ty ?code ?lc ?hvs ?hfile ?cell ?su ?top ?sb ?no ?meth ?isV ?fld ?hmsg ?hev ?hsw ?hsw2; (case a => first | k_is | kernel_rfl); (case i => first | k_is | kernel_rfl); (case l => first | k_is | kernel_rfl); (case cl => first | k_is | kernel_rfl); (case hbm => decide); (case sa => first | k_is | kernel_rfl); (case exC => first | k_is | kernel_rfl); (case tyC => first | k_is | kernel_rfl); (case kC => first | k_is | kernel_rfl); (case ty => first | k_is | kernel_rfl); (case code => first | k_is | kernel_rfl); (case lc => first | k_is | kernel_rfl); (case hvs => rfl); (case hfile => first | rfl | decide +kernel); (case cell => first | k_is | kernel_rfl); (case su => first | k_is | kernel_rfl); (case top => first | rfl | decide +kernel); (case sb => first | k_is | kernel_rfl); (case no => first | k_is | kernel_rfl); (case meth => ks_is); (case isV => first | k_is | kernel_rfl); (case fld => first | k_is | kernel_rfl); (case hmsg => decide); (case hev => exact fun _ => rfl); (case hsw => exact fun _ => rfl); (case hsw2 => exact fun _ => rfl))
    (case TU => refine' Pl.tryUAt KX G ?u ?x1 ?x2 ?x3 ?x4 ?fld ?one; (case u => first | k_is | kernel_rfl); (case x1 => first | k_is | kernel_rfl); (case x2 => first | k_is | kernel_rfl); (case x3 => first | k_is | kernel_rfl); (case x4 => first | k_is | kernel_rfl); (case fld => first | k_is | kernel_rfl); (case one => first | k_is | kernel_rfl))

