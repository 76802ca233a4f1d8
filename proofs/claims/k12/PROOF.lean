import PyProof.Rows.All
import Wide.All
import OpenK.AllK
import Wide.FinOn
import HandS.ForExc
import HandS.Comp
import HandS.Iter
import HandS.Wide
import HandS.Defaults
import HandS.IsInst
import HandS.ExcIs
import HandS.RevRange
import HandS.Rev
import HandS.SortInts
import HandS.TryMany
import KE.KExcSuper
import HandS.Conv
import HandS.ExcInit
import KE.KExcIs
import PyProof.MaxThree
import HandS.EndBits
import KE.RegKSuper
import HandS.RevTup
import HandS.ListEq
import KE.DataMinMax
import HandS.More
import HandS.DictComp
import HandS.SetFor
import KE.KDictSum
import HandS.Strs
import PySem.Challenge.RW_laterwants_k12_standard_continuation
set_option Elab.async false
set_option linter.all false
set_option autoImplicit false
set_option maxRecDepth 100000
set_option maxHeartbeats 8000000
/-! # Ct: bodies as functions over plain data -/
namespace Ct
open PySem PySem.Spec PyProof.Rows L2

abbrev D := PyData
/-- an error: its class's number, its attributes' values -/
structure Er where
  c : Nat
  fs : List D
inductive Rs (α : Type) where
  | ok (a : α)
  | exc (e : Er)
  | stuck
namespace Rs
def bind {α β : Type} (r : Rs α) (f : α → Rs β) : Rs β := match r with
  | .ok a => f a
  | .exc e => .exc e
  | .stuck => .stuck
@[simp] theorem bind_ok {α β : Type} (a : α) (f : α → Rs β) : (Rs.ok a).bind f = f a := id rfl
@[simp] theorem bind_exc {α β : Type} (e : Er) (f : α → Rs β) : (Rs.exc e : Rs α).bind f = .exc e := id rfl
@[simp] theorem bind_stuck {α β : Type} (f : α → Rs β) : (Rs.stuck : Rs α).bind f = .stuck := id rfl
end Rs
def Wp {α : Type} (r : Rs α) (P : α → Prop) (E : Er → Prop) : Prop := match r with
  | .ok a => P a
  | .exc e => E e
  | .stuck => False
theorem Wp.imp {α : Type} {r : Rs α} {P P' : α → Prop} {E E' : Er → Prop} (h : Wp r P E) (hp : ∀ a, P a → P' a) (he : ∀ e, E e → E' e) : Wp r P' E' := by
  cases r with
  | ok a => exact hp a h
  | exc e => exact he e h
  | stuck => exact h
theorem Wp.bind {α β : Type} {r : Rs α} {f : α → Rs β} {P : β → Prop} {E : Er → Prop} (h : Wp (r.bind f) P E) : Wp r (fun a => Wp (f a) P E) E := by
  cases r with
  | ok a => exact h
  | exc e => exact h
  | stuck => exact h

/-! ### plain data in the heap -/
mutual
inductive Rp (G : Hp) : V → D → Prop
  | non : Rp G .non .none
  | bl (b : Bool) : Rp G (.bl b) (.bool b)
  | int (i : Int) : Rp G (.int i) (.int i)
  | lst {a : Addr} {xs : List V} {ds : List D} : G a = some (.lst xs) → RpL G xs ds → Rp G (.ref a) (.list ds)
  | tup {a : Addr} {xs : List V} {ds : List D} : G a = some (.tup xs) → RpL G xs ds → Rp G (.ref a) (.tuple ds)
  | dct {a : Addr} {o : Obj} {kvs : List (Key × V)} {es : List (D × D)} : G a = some (.frz o (.dK kvs)) → RpK G kvs es → Rp G (.ref a) (.dict es)
  | ins {a C dx : Addr} {fs : List (Str × V)} {es : List (D × D)} : G a = some (.ins C dx fs) → RpF G fs es → Rp G (.ref a) (.dict ((.none, .int (C : Nat)) :: es))
  /-- the script, which nobody writes -/
  | scr {a : Addr} {o : Obj} {xs : List V} {ds : List D} : G a = some (.frz o (.lst xs)) → RpL G xs ds → Rp G (.ref a) (.dict [(.bool true, .list ds)])
inductive RpL (G : Hp) : List V → List D → Prop
  | nil : RpL G [] []
  | cons {v : V} {vs : List V} {d : D} {ds : List D} : Rp G v d → RpL G vs ds → RpL G (v :: vs) (d :: ds)
inductive RpK (G : Hp) : List (Key × V) → List (D × D) → Prop
  | nil : RpK G [] []
  | cons {n : Int} {v : V} {kvs : List (Key × V)} {d : D} {es : List (D × D)} : Rp G v d → RpK G kvs es → RpK G ((.inl n, v) :: kvs) ((.int n, d) :: es)
inductive RpF (G : Hp) : List (Str × V) → List (D × D) → Prop
  | nil : RpF G [] []
  | cons {f : Str} {v : V} {fs : List (Str × V)} {d : D} {es : List (D × D)} : Rp G v d → RpF G fs es → RpF G ((f, v) :: fs) ((.str f, d) :: es)
end

mutual
theorem Rp.mono {G G' : Hp} (e : Same G G') : ∀ {v : V} {d : D}, Rp G v d → Rp G' v d
  | _, _, .non => .non
  | _, _, .bl b => .bl b
  | _, _, .int i => .int i
  | _, _, .lst h hl => .lst (e _ _ h) (RpL.mono e hl)
  | _, _, .scr h hl => .scr (e _ _ h) (RpL.mono e hl)
  | _, _, .tup h hl => .tup (e _ _ h) (RpL.mono e hl)
  | _, _, .dct h hl => .dct (e _ _ h) (RpK.mono e hl)
  | _, _, .ins h hl => .ins (e _ _ h) (RpF.mono e hl)
theorem RpL.mono {G G' : Hp} (e : Same G G') : ∀ {v : List V} {d : List D}, RpL G v d → RpL G' v d
  | _, _, .nil => .nil
  | _, _, .cons h hl => .cons (Rp.mono e h) (RpL.mono e hl)
theorem RpK.mono {G G' : Hp} (e : Same G G') : ∀ {v : List (Key × V)} {d : List (D × D)}, RpK G v d → RpK G' v d
  | _, _, .nil => .nil
  | _, _, .cons h hl => .cons (Rp.mono e h) (RpK.mono e hl)
theorem RpF.mono {G G' : Hp} (e : Same G G') : ∀ {v : List (Str × V)} {d : List (D × D)}, RpF G v d → RpF G' v d
  | _, _, .nil => .nil
  | _, _, .cons h hl => .cons (Rp.mono e h) (RpF.mono e hl)
end
section
variable {G : Hp} {v : V} {d : D} {vs ws : List V} {ds es : List D}
theorem Rp.non_inv (h : Rp G v .none) : v = .non := by cases h; rfl
theorem Rp.bl_inv {b : Bool} (h : Rp G v (.bool b)) : v = .bl b := by cases h; rfl
theorem Rp.int_inv {i : Int} (h : Rp G v (.int i)) : v = .int i := by cases h; rfl
theorem Rp.lst_inv (h : Rp G v (.list ds)) : ∃ a xs, v = .ref a ∧ G a = some (.lst xs) ∧ RpL G xs ds := by
  cases h with
  | lst h hl => exact ⟨_, _, rfl, h, hl⟩
theorem Rp.tup_inv (h : Rp G v (.tuple ds)) : ∃ a xs, v = .ref a ∧ G a = some (.tup xs) ∧ RpL G xs ds := by
  cases h with
  | tup h hl => exact ⟨_, _, rfl, h, hl⟩
theorem RpL.length : ∀ {vs : List V} {ds : List D}, RpL G vs ds → vs.length = ds.length
  | _, _, .nil => rfl
  | _, _, .cons _ h => by rw [List.length_cons, List.length_cons, RpL.length h]
theorem RpL.append : ∀ {vs ws : List V} {ds es : List D}, RpL G vs ds → RpL G ws es → RpL G (vs ++ ws) (ds ++ es)
  | _, _, _, _, .nil, h => h
  | _, _, _, _, .cons h hl, h2 => .cons h (RpL.append hl h2)
theorem RpL.get : ∀ {vs : List V} {ds : List D} {i : Nat} {d : D}, RpL G vs ds → ds[i]? = some d → ∃ v, vs[i]? = some v ∧ Rp G v d
  | _, _, _, _, .nil, h => by simp at h
  | _, _, 0, _, .cons h _, e => by
    have : _ = _ := Option.some.inj e
    subst this
    exact ⟨_, rfl, h⟩
  | _, _, i + 1, _, .cons _ hl, e => RpL.get (i := i) hl e
theorem RpL.getV : ∀ {vs : List V} {ds : List D} {i : Nat} {v : V}, RpL G vs ds → vs[i]? = some v → ∃ d, ds[i]? = some d ∧ Rp G v d
  | _, _, _, _, .nil, h => by simp at h
  | _, _, 0, _, .cons h _, e => by
    have : _ = _ := Option.some.inj e
    subst this
    exact ⟨_, rfl, h⟩
  | _, _, i + 1, _, .cons _ hl, e => RpL.getV (i := i) hl e
theorem RpL.set : ∀ {vs : List V} {ds : List D} {v : V} {d : D} (i : Nat), RpL G vs ds → Rp G v d → RpL G (vs.set i v) (ds.set i d)
  | _, _, _, _, _, .nil, _ => .nil
  | _, _, _, _, 0, .cons _ hl, h => .cons h hl
  | _, _, _, _, i + 1, .cons h0 hl, h => .cons h0 (RpL.set i hl h)
theorem RpL.take : ∀ {vs : List V} {ds : List D} (n : Nat), RpL G vs ds → RpL G (vs.take n) (ds.take n)
  | _, _, 0, _ => .nil
  | _, _, _ + 1, .nil => .nil
  | _, _, n + 1, .cons h hl => .cons h (RpL.take n hl)
theorem RpL.drop : ∀ {vs : List V} {ds : List D} (n : Nat), RpL G vs ds → RpL G (vs.drop n) (ds.drop n)
  | _, _, 0, h => h
  | _, _, _ + 1, .nil => .nil
  | _, _, n + 1, .cons _ hl => RpL.drop n hl
theorem RpL.reverse : ∀ {vs : List V} {ds : List D}, RpL G vs ds → RpL G vs.reverse ds.reverse
  | _, _, .nil => .nil
  | _, _, .cons h hl => by
    rw [List.reverse_cons, List.reverse_cons]
    exact (RpL.reverse hl).append (.cons h .nil)
theorem RpL.ints : ∀ {vs : List V} {ns : List Int}, RpL G vs (ns.map PyData.int) → vs = ns.map V.int
  | _, [], .nil => rfl
  | _, n :: ns, .cons h hl => by
    rw [List.map_cons, Rp.int_inv h, RpL.ints hl]
theorem RpL.of_ints : ∀ (ns : List Int), RpL G (ns.map V.int) (ns.map PyData.int)
  | [] => .nil
  | n :: ns => .cons (.int n) (RpL.of_ints ns)
theorem RpL.rep (h : Rp G v d) : ∀ n : Nat, RpL G (List.replicate n v) (List.replicate n d)
  | 0 => .nil
  | n + 1 => .cons h (RpL.rep h n)
end

/-- a value that lies in no heap -/
def scal1 : D → Bool
  | .none => true
  | .bool _ => true
  | .int _ => true
  | _ => false
theorem Rp.scal {G G' : Hp} {v : V} {d : D} (h : Rp G v d) (s : scal1 d = true) : Rp G' v d := by
  cases h with
  | non => exact .non
  | bl b => exact .bl b
  | int i => exact .int i
  | lst _ _ => cases s
  | tup _ _ => cases s
  | dct _ _ => cases s
  | ins _ _ => cases s
  | scr _ _ => cases s

/-! ### heaps: H what is tracked, G the part that stands for good -/
structure Step (H G H' G' : Hp) : Prop where
  hh : Same H H'
  gg : Same G G'
  sub : Same G' H'
  sep : ∀ a, G a = none → H a ≠ none → G' a = none
theorem Step.refl {H G : Hp} (s : Same G H) : Step H G H G := ⟨Same.refl _, Same.refl _, s, fun _ h _ => h⟩
theorem Step.trans {H G H1 G1 H2 G2 : Hp} (a : Step H G H1 G1) (b : Step H1 G1 H2 G2) : Step H G H2 G2 where
  hh := a.hh.trans b.hh
  gg := a.gg.trans b.gg
  sub := b.sub
  sep := fun x g h => b.sep x (a.sep x g h) (fun z => by
    cases q : H x with
    | none => exact h q
    | some o => rw [a.hh x o q] at z; cases z)
theorem same_new {H : Hp} {p : Addr} {o : HO} (h : H p = none) : Same H (upd H p o) := fun a u e => by
  rw [upd_ne (ne_of_none e h)]
  exact e
theorem same_upd {G H : Hp} {p : Addr} {o : HO} (s : Same G H) : Same (upd G p o) (upd H p o) := fun a u e => by
  by_cases h : a = p
  · subst h
    rw [upd_same] at e ⊢
    exact e
  · rw [upd_ne h] at e ⊢
    exact s a u e
/-- a new object that stands for good -/
theorem Step.new {H G : Hp} {p : Addr} {o : HO} (s : Same G H) (h : H p = none) : Step H G (upd H p o) (upd G p o) where
  hh := same_new h
  gg := same_new (Same.free s h)
  sub := same_upd s
  sep := fun a g n => by
    by_cases e : a = p
    · subst e
      exact absurd h n
    · rw [upd_ne e]
      exact g
/-- a new object that may change -/
theorem Step.newO {H G : Hp} {p : Addr} {o : HO} (s : Same G H) (h : H p = none) : Step H G (upd H p o) G where
  hh := same_new h
  gg := Same.refl _
  sub := fun a u e => same_new h a u (s a u e)
  sep := fun a g n => g
/-- a new object is frozen for good and given away -/
theorem Step.frz {H G H' G' : Hp} {p : Addr} {o : HO} (t : Step H G H' G') (h : H p = none) (hg : G' p = none) : Step H G (upd H' p o) (upd G' p o) where
  hh := fun a u e => by
    have q : a ≠ p := fun z => by rw [z, h] at e; cases e
    rw [upd_ne q]
    exact t.hh a u e
  gg := t.gg.trans (same_new hg)
  sub := fun a u e => by
    by_cases q : a = p
    · subst q
      rw [upd_same] at e ⊢
      exact e
    · rw [upd_ne q] at e ⊢
      exact t.sub a u e
  sep := fun a g n => by
    have q : a ≠ p := fun z => n (by rw [z]; exact h)
    rw [upd_ne q]
    exact t.sep a g n
/-- an own object is given away -/
theorem Step.give {H G H' G' : Hp} {p : Addr} {o : HO} (t : Step H G H' G') (h : H p = none) (hp : H' p = some o) (hg : G' p = none) : Step H G H' (upd G' p o) where
  hh := t.hh
  gg := t.gg.trans (same_new hg)
  sub := fun a u e => by
    by_cases q : a = p
    · subst q
      rw [upd_same] at e
      exact hp.trans e
    · rw [upd_ne q] at e
      exact t.sub a u e
  sep := fun a g n => by
    by_cases e : a = p
    · subst e
      exact absurd h n
    · rw [upd_ne e]
      exact t.sep a g n
end Ct

namespace Ct
open PySem PySem.Spec PyProof.Rows L2

abbrev St := L2.St
/-! own trees: v stands for d; the list: the objects of one's own, the others stand for good -/
/-- which parts are one's own: g good, x not known, r all items alike, c the first item and the rest -/
inductive Sh where
  | g
  | x
  | r (s : Sh)
  | c (s k : Sh)
deriving DecidableEq
namespace Sh
def node : Sh → Bool
  | .r _ => true
  | .c _ k => k.node
  | _ => false
def full : Sh → Bool
  | .g => true
  | .x => false
  | .r s => s.full
  | .c s k => s.full && k.full
/-- the shape of the item n -/
def at' : Sh → Nat → Sh
  | .r s, _ => s
  | .c s _, 0 => s
  | .c _ k, n + 1 => k.at' n
  | _, _ => .x
/-- the item n gets the shape t -/
def put : Sh → Nat → Sh → Sh
  | .r s, 0, t => .c t (.r s)
  | .r s, n + 1, t => .c s ((Sh.r s).put n t)
  | .c _ k, 0, t => .c t k
  | .c s k, n + 1, t => .c s (k.put n t)
  | k, _, _ => k
theorem full_r {s : Sh} (e : (Sh.r s).full = true) : s.full = true := e
end Sh
mutual
inductive RT (H G : Hp) : Sh → V → D → List Addr → Prop
  | good {v : V} {d : D} : Rp G v d → RT H G .g v d []
  | hole {v : V} {d : D} : RT H G .x v d []
  | sc {k : Sh} {v : V} {d : D} : scal1 d = true → Rp G v d → RT H G k v d []
  | lst {k : Sh} {p : Addr} {vs : List V} {ds : List D} {fp : List Addr} : k.node = true → H p = some (.lst vs) → G p = none → RTL H G k vs ds fp → RT H G k (.ref p) (.list ds) (p :: fp)
  | tup {k : Sh} {p : Addr} {vs : List V} {ds : List D} {fp : List Addr} : k.node = true → H p = some (.tup vs) → G p = none → RTL H G k vs ds fp → RT H G k (.ref p) (.tuple ds) (p :: fp)
inductive RTL (H G : Hp) : Sh → List V → List D → List Addr → Prop
  | nil {k : Sh} : RTL H G k [] [] []
  | rep {s : Sh} {v : V} {vs : List V} {d : D} {ds : List D} {f1 f2 : List Addr} : RT H G s v d f1 → RTL H G (.r s) vs ds f2 → RTL H G (.r s) (v :: vs) (d :: ds) (f1 ++ f2)
  | con {s k : Sh} {v : V} {vs : List V} {d : D} {ds : List D} {f1 f2 : List Addr} : RT H G s v d f1 → RTL H G k vs ds f2 → RTL H G (.c s k) (v :: vs) (d :: ds) (f1 ++ f2)
end
theorem Rp.own_no {G : Hp} {p : Addr} {d : D} (h : Rp G (.ref p) d) : G p ≠ none := by
  cases h with
  | lst h _ => rw [h]; exact Option.some_ne_none _
  | tup h _ => rw [h]; exact Option.some_ne_none _
  | dct h _ => rw [h]; exact Option.some_ne_none _
  | ins h _ => rw [h]; exact Option.some_ne_none _
  | scr h _ => rw [h]; exact Option.some_ne_none _
mutual
theorem RT.uniq {H G : Hp} : ∀ {k : Sh} {v : V} {d : D} {f g : List Addr}, RT H G k v d f → RT H G k v d g → f = g
  | _, _, _, _, _, .good _, .good _ => rfl
  | _, _, _, _, _, .good _, .sc _ _ => rfl
  | _, _, _, _, _, .sc _ _, .good _ => rfl
  | _, _, _, _, _, .sc _ _, .sc _ _ => rfl
  | _, _, _, _, _, .sc _ _, .hole => rfl
  | _, _, _, _, _, .hole, .sc _ _ => rfl
  | _, _, _, _, _, .hole, .hole => rfl
  | _, _, _, _, _, .sc h _, .lst _ _ _ _ => nomatch h
  | _, _, _, _, _, .sc h _, .tup _ _ _ _ => nomatch h
  | _, _, _, _, _, .lst _ _ _ _, .sc h _ => nomatch h
  | _, _, _, _, _, .tup _ _ _ _, .sc h _ => nomatch h
  | _, _, _, _, _, .lst _ h1 _ r1, .lst _ h2 _ r2 => by
    rw [h1] at h2
    cases h2
    rw [RTL.uniq r1 r2]
  | _, _, _, _, _, .tup _ h1 _ r1, .tup _ h2 _ r2 => by
    rw [h1] at h2
    cases h2
    rw [RTL.uniq r1 r2]
theorem RTL.uniq {H G : Hp} : ∀ {k : Sh} {v : List V} {d : List D} {f g : List Addr}, RTL H G k v d f → RTL H G k v d g → f = g
  | _, _, _, _, _, .nil, .nil => rfl
  | _, _, _, _, _, .rep a b, .rep c e => by rw [RT.uniq a c, RTL.uniq b e]
  | _, _, _, _, _, .con a b, .con c e => by rw [RT.uniq a c, RTL.uniq b e]
end
mutual
theorem RT.mono {H G H' G' : Hp} (gg : Same G G') : ∀ {k : Sh} {v : V} {d : D} {f : List Addr}, RT H G k v d f → (∀ p ∈ f, G' p = none ∧ H' p = H p) → RT H' G' k v d f
  | _, _, _, _, .good h, _ => .good (h.mono gg)
  | _, _, _, _, .hole, _ => .hole
  | _, _, _, _, .sc e h, _ => .sc e (h.mono gg)
  | _, _, _, _, .lst n h g r, k => .lst n ((k _ List.mem_cons_self).2.trans h) (k _ List.mem_cons_self).1 (RTL.mono gg r fun p hp => k p (List.mem_cons_of_mem _ hp))
  | _, _, _, _, .tup n h g r, k => .tup n ((k _ List.mem_cons_self).2.trans h) (k _ List.mem_cons_self).1 (RTL.mono gg r fun p hp => k p (List.mem_cons_of_mem _ hp))
theorem RTL.mono {H G H' G' : Hp} (gg : Same G G') : ∀ {k : Sh} {v : List V} {d : List D} {f : List Addr}, RTL H G k v d f → (∀ p ∈ f, G' p = none ∧ H' p = H p) → RTL H' G' k v d f
  | _, _, _, _, .nil, _ => .nil
  | _, _, _, _, .rep a b, k => .rep (RT.mono gg a fun p hp => k p (List.mem_append.mpr (.inl hp))) (RTL.mono gg b fun p hp => k p (List.mem_append.mpr (.inr hp)))
  | _, _, _, _, .con a b, k => .con (RT.mono gg a fun p hp => k p (List.mem_append.mpr (.inl hp))) (RTL.mono gg b fun p hp => k p (List.mem_append.mpr (.inr hp)))
end
mutual
theorem RT.own {H G : Hp} : ∀ {k : Sh} {v : V} {d : D} {f : List Addr}, RT H G k v d f → ∀ p ∈ f, H p ≠ none ∧ G p = none
  | _, _, _, _, .good _, _, hp => nomatch hp
  | _, _, _, _, .hole, _, hp => nomatch hp
  | _, _, _, _, .sc _ _, _, hp => nomatch hp
  | _, _, _, _, .lst _ h g r, q, hq => by
    rcases List.mem_cons.mp hq with rfl | hq
    · exact ⟨by rw [h]; exact Option.some_ne_none _, g⟩
    · exact RTL.own r q hq
  | _, _, _, _, .tup _ h g r, q, hq => by
    rcases List.mem_cons.mp hq with rfl | hq
    · exact ⟨by rw [h]; exact Option.some_ne_none _, g⟩
    · exact RTL.own r q hq
theorem RTL.own {H G : Hp} : ∀ {k : Sh} {v : List V} {d : List D} {f : List Addr}, RTL H G k v d f → ∀ p ∈ f, H p ≠ none ∧ G p = none
  | _, _, _, _, .nil, _, hp => nomatch hp
  | _, _, _, _, .rep a b, q, hq => by
    rcases List.mem_append.mp hq with hq | hq
    · exact RT.own a q hq
    · exact RTL.own b q hq
  | _, _, _, _, .con a b, q, hq => by
    rcases List.mem_append.mp hq with hq | hq
    · exact RT.own a q hq
    · exact RTL.own b q hq
end
mutual
theorem RT.rp {H G : Hp} (sub : Same G H) : ∀ {k : Sh} {v : V} {d : D} {f : List Addr}, k.full = true → RT H G k v d f → Rp H v d
  | _, _, _, _, _, .good h => h.mono sub
  | _, _, _, _, e, .hole => nomatch e
  | _, _, _, _, _, .sc _ h => h.mono sub
  | _, _, _, _, e, .lst _ h _ r => .lst h (RTL.rp sub e r)
  | _, _, _, _, e, .tup _ h _ r => .tup h (RTL.rp sub e r)
theorem RTL.rp {H G : Hp} (sub : Same G H) : ∀ {k : Sh} {v : List V} {d : List D} {f : List Addr}, k.full = true → RTL H G k v d f → RpL H v d
  | _, _, _, _, _, .nil => .nil
  | .r s, _, _, _, e, .rep a b => .cons (RT.rp sub (Sh.full_r e) a) (RTL.rp sub e b)
  | _, _, _, _, e, .con a b => .cons (RT.rp sub (Bool.and_eq_true_iff.mp e).1 a) (RTL.rp sub (Bool.and_eq_true_iff.mp e).2 b)
end
theorem RT.step {H G H' G' : Hp} {k : Sh} {v : V} {d : D} {f : List Addr} (r : RT H G k v d f) (t : Step H G H' G') : RT H' G' k v d f := r.mono t.gg fun p hp => by
  obtain ⟨a, b⟩ := r.own p hp
  refine ⟨t.sep p b a, ?_⟩
  cases e : H p with
  | none => exact absurd e a
  | some o => exact t.hh p o e
theorem RTL.step {H G H' G' : Hp} {k : Sh} {v : List V} {d : List D} {f : List Addr} (r : RTL H G k v d f) (t : Step H G H' G') : RTL H' G' k v d f := r.mono t.gg fun p hp => by
  obtain ⟨a, b⟩ := r.own p hp
  refine ⟨t.sep p b a, ?_⟩
  cases e : H p with
  | none => exact absurd e a
  | some o => exact t.hh p o e
theorem RTL.length {H G : Hp} : ∀ {k : Sh} {v : List V} {d : List D} {f : List Addr}, RTL H G k v d f → v.length = d.length
  | _, _, _, _, .nil => rfl
  | _, _, _, _, .rep _ b => by rw [List.length_cons, List.length_cons, RTL.length b]
  | _, _, _, _, .con _ b => by rw [List.length_cons, List.length_cons, RTL.length b]
/-- all items stand for good -/
theorem RTL.good {H G : Hp} : ∀ {v : List V} {d : List D}, RpL G v d → RTL H G (.r .g) v d []
  | _, _, .nil => .nil
  | _, _, .cons a b => .rep (f1 := []) (.good a) (RTL.good b)
theorem RTL.of_good {H G : Hp} : ∀ {v : List V} {d : List D} {f : List Addr}, RTL H G (.r .g) v d f → RpL G v d ∧ f = []
  | _, _, _, .nil => ⟨.nil, rfl⟩
  | _, _, _, .rep (.good a) b => by
    obtain ⟨x, rfl⟩ := RTL.of_good b
    exact ⟨.cons a x, rfl⟩
  | _, _, _, .rep (.sc _ a) b => by
    obtain ⟨x, rfl⟩ := RTL.of_good b
    exact ⟨.cons a x, rfl⟩
/-- one more item -/
theorem RTL.snoc {H G : Hp} {v : V} {d : D} {f : List Addr} : ∀ {k : Sh} {vs : List V} {ds : List D} {fs : List Addr}, k.node = true → RTL H G k vs ds fs → RT H G (k.at' ds.length) v d f → ∃ f', RTL H G k (vs ++ [v]) (ds ++ [d]) f' ∧ f' = fs ++ f
  | .r s, [], [], _, _, .nil, h => ⟨f ++ [], .rep h .nil, by rw [List.append_nil, List.nil_append]⟩
  | .c s k, [], [], _, _, .nil, h => ⟨f ++ [], .con h .nil, by rw [List.append_nil, List.nil_append]⟩
  | .r s, _, _, _, n, .rep a b, h => by
    obtain ⟨f', h', rfl⟩ := RTL.snoc n b h
    exact ⟨_, .rep a h', by rw [List.append_assoc]⟩
  | .c s k, _, _, _, n, .con a b, h => by
    obtain ⟨f', h', rfl⟩ := RTL.snoc (k := k) n b h
    exact ⟨_, .con a h', by rw [List.append_assoc]⟩
  | .g, [], [], _, n, .nil, _ => nomatch n
  | .x, [], [], _, n, .nil, _ => nomatch n
/-- the item n apart: the rest stands while what it owns stands -/
theorem RTL.split {H G : Hp} : ∀ {k : Sh} {vs : List V} {ds : List D} {fp : List Addr} {n : Nat} {d : D}, RTL H G k vs ds fp → ds[n]? = some d → ∃ v f0 f1 f2, vs[n]? = some v ∧ fp = f0 ++ (f1 ++ f2) ∧ RT H G (k.at' n) v d f1 ∧
    ∀ H' G' s v' d' f', Same G G' → (∀ p ∈ f0 ++ f2, G' p = none ∧ H' p = H p) → RT H' G' s v' d' f' → RTL H' G' (k.put n s) (vs.set n v') (ds.set n d') (f0 ++ (f' ++ f2))
  | _, _, _, _, n, d, .nil, e => by simp at e
  | .r s, v :: vs, d0 :: ds, _, 0, d, .rep (f1 := f1) (f2 := f2) a b, e => by
    have : d0 = d := Option.some.inj e
    subst this
    exact ⟨v, [], f1, f2, rfl, rfl, a, fun H' G' s' v' d' f' gg k h => by
      show RTL H' G' _ _ _ (f' ++ f2)
      exact .con h (b.mono gg fun p hp => k p (by simpa using hp))⟩
  | .c s k, v :: vs, d0 :: ds, _, 0, d, .con (f1 := f1) (f2 := f2) a b, e => by
    have : d0 = d := Option.some.inj e
    subst this
    exact ⟨v, [], f1, f2, rfl, rfl, a, fun H' G' s' v' d' f' gg k h => by
      show RTL H' G' _ _ _ (f' ++ f2)
      exact .con h (b.mono gg fun p hp => k p (by simpa using hp))⟩
  | .r s, v :: vs, d0 :: ds, _, n + 1, d, .rep (f1 := g1) (f2 := g2) a b, e => by
    obtain ⟨w, f0, f1, f2, e1, e2, e3, e4⟩ := RTL.split (n := n) b e
    subst e2
    refine ⟨w, g1 ++ f0, f1, f2, e1, by rw [List.append_assoc], e3, fun H' G' s' v' d' f' gg k h => ?_⟩
    have := e4 H' G' s' v' d' f' gg (fun p hp => k p (by simp only [List.mem_append] at hp ⊢; rcases hp with z | z; exact .inl (.inr z); exact .inr z)) h
    rw [List.append_assoc]
    exact .con (a.mono gg fun p hp => k p (by simp only [List.mem_append]; exact .inl (.inl hp))) this
  | .c s k, v :: vs, d0 :: ds, _, n + 1, d, .con (f1 := g1) (f2 := g2) a b, e => by
    obtain ⟨w, f0, f1, f2, e1, e2, e3, e4⟩ := RTL.split (n := n) b e
    subst e2
    refine ⟨w, g1 ++ f0, f1, f2, e1, by rw [List.append_assoc], e3, fun H' G' s' v' d' f' gg k h => ?_⟩
    have := e4 H' G' s' v' d' f' gg (fun p hp => k p (by simp only [List.mem_append] at hp ⊢; rcases hp with z | z; exact .inl (.inr z); exact .inr z)) h
    rw [List.append_assoc]
    exact .con (a.mono gg fun p hp => k p (by simp only [List.mem_append]; exact .inl (.inl hp))) this
theorem Sh.put_node : ∀ {k : Sh} {n : Nat} {s : Sh}, k.node = true → (k.put n s).node = true
  | .r _, 0, _, _ => rfl
  | .r s, n + 1, _, _ => Sh.put_node (k := .r s) (n := n) rfl
  | .c _ _, 0, _, h => h
  | .c _ k, n + 1, _, h => Sh.put_node (k := k) (n := n) h
  | .g, _, _, h => nomatch h
  | .x, _, _, h => nomatch h
mutual
/-- all of it is given away -/
theorem RT.give {H0 G0 H : Hp} : ∀ {G : Hp} {k : Sh} {v : V} {d : D} {f : List Addr}, Step H0 G0 H G → k.full = true → RT H G k v d f → f.Nodup → (∀ p ∈ f, H0 p = none) → ∃ G', Step H0 G0 H G' ∧ Same G G' ∧ Rp G' v d ∧ ∀ p, p ∉ f → G' p = G p
  | G, _, _, _, _, t, _, .good h, _, _ => ⟨G, t, Same.refl _, h, fun _ _ => rfl⟩
  | _, _, _, _, _, _, e, .hole, _, _ => nomatch e
  | G, _, _, _, _, t, _, .sc _ h, _, _ => ⟨G, t, Same.refl _, h, fun _ _ => rfl⟩
  | G, k, _, _, _, t, e, .lst (p := p) (fp := fp) n h g r, nd, hp => by
    obtain ⟨n1, n2⟩ := List.nodup_cons.mp nd
    obtain ⟨G', t', gg, rp, out⟩ := RTL.give t e r n2 (fun q hq => hp q (List.mem_cons_of_mem _ hq))
    have g' : G' p = none := by rw [out p n1]; exact g
    refine ⟨upd G' p (.lst _), t'.give (hp p List.mem_cons_self) h g', gg.trans (same_new g'), .lst upd_same (rp.mono (same_new g')), fun q hq => ?_⟩
    rw [List.mem_cons, not_or] at hq
    rw [upd_ne hq.1]
    exact out q hq.2
  | G, k, _, _, _, t, e, .tup (p := p) (fp := fp) n h g r, nd, hp => by
    obtain ⟨n1, n2⟩ := List.nodup_cons.mp nd
    obtain ⟨G', t', gg, rp, out⟩ := RTL.give t e r n2 (fun q hq => hp q (List.mem_cons_of_mem _ hq))
    have g' : G' p = none := by rw [out p n1]; exact g
    refine ⟨upd G' p (.tup _), t'.give (hp p List.mem_cons_self) h g', gg.trans (same_new g'), .tup upd_same (rp.mono (same_new g')), fun q hq => ?_⟩
    rw [List.mem_cons, not_or] at hq
    rw [upd_ne hq.1]
    exact out q hq.2
theorem RTL.give {H0 G0 H : Hp} : ∀ {G : Hp} {k : Sh} {v : List V} {d : List D} {f : List Addr}, Step H0 G0 H G → k.full = true → RTL H G k v d f → f.Nodup → (∀ p ∈ f, H0 p = none) → ∃ G', Step H0 G0 H G' ∧ Same G G' ∧ RpL G' v d ∧ ∀ p, p ∉ f → G' p = G p
  | G, _, _, _, _, t, _, .nil, _, _ => ⟨G, t, Same.refl _, .nil, fun _ _ => rfl⟩
  | G, _, _, _, _, t, e, .rep (f1 := f1) (f2 := f2) a b, nd, hp => by
    obtain ⟨n1, n2, n3⟩ := List.nodup_append.mp nd
    obtain ⟨G1, t1, gg1, r1, o1⟩ := RT.give t (Sh.full_r e) a n1 fun q hq => hp q (List.mem_append_left _ hq)
    have b1 : RTL H G1 _ _ _ _ := b.mono gg1 fun q hq => ⟨by rw [o1 q (fun z => n3 q z q hq rfl)]; exact (b.own q hq).2, rfl⟩
    obtain ⟨G2, t2, gg2, r2, o2⟩ := RTL.give t1 e b1 n2 fun q hq => hp q (List.mem_append_right _ hq)
    exact ⟨G2, t2, gg1.trans gg2, .cons (r1.mono gg2) r2, fun q hq => by
      rw [List.mem_append, not_or] at hq
      rw [o2 q hq.2, o1 q hq.1]⟩
  | G, _, _, _, _, t, e, .con (f1 := f1) (f2 := f2) a b, nd, hp => by
    have e := Bool.and_eq_true_iff.mp e
    obtain ⟨n1, n2, n3⟩ := List.nodup_append.mp nd
    obtain ⟨G1, t1, gg1, r1, o1⟩ := RT.give t e.1 a n1 fun q hq => hp q (List.mem_append_left _ hq)
    have b1 : RTL H G1 _ _ _ _ := b.mono gg1 fun q hq => ⟨by rw [o1 q (fun z => n3 q z q hq rfl)]; exact (b.own q hq).2, rfl⟩
    obtain ⟨G2, t2, gg2, r2, o2⟩ := RTL.give t1 e.2 b1 n2 fun q hq => hp q (List.mem_append_right _ hq)
    exact ⟨G2, t2, gg1.trans gg2, .cons (r1.mono gg2) r2, fun q hq => by
      rw [List.mem_append, not_or] at hq
      rw [o2 q hq.2, o1 q hq.1]⟩
end
/-- what a slot holds: nothing that is told; a value that stands for good; a list (a dict) of one's own; the caught error; a tree of one's own -/
inductive Sl where
  | un
  | va (d : D)
  | ow (ds : List D)
  | od (es : List (D × D))
  | ex (e : Er)
  | ot (k : Sh) (d : D)
abbrev Rho := List Sl
def isOwn : Sl → Bool
  | .ow _ => true
  | .od _ => true
  | .ot _ _ => true
  | _ => false

/-- what is fixed in a body: the context, the wish about errors, the error classes' addresses and attributes, the caught error -/
structure Sx where
  X : Cx
  W : WX
  ca : Nat → Addr
  cf : Nat → List Str
  xa : Option (Addr × Value × Option Addr)
def ErR (ca : Nat → Addr) (cf : Nat → List Str) (G : Hp) (e : Er) (cls : Value) (dd : Option Addr) : Prop :=
  cls = .ref (ca e.c) ∧ ((e.fs = [] ∧ dd = none) ∨ ∃ d vs, dd = some d ∧ (cf e.c).length = vs.length ∧ G d = some (.xd ((cf e.c).zip vs)) ∧ RpL G vs e.fs)
theorem ErR.mono {ca : Nat → Addr} {cf : Nat → List Str} {G G' : Hp} {e : Er} {cls : Value} {dd : Option Addr} (s : Same G G') (h : ErR ca cf G e cls dd) : ErR ca cf G' e cls dd := by
  obtain ⟨h1, h2 | ⟨d, vs, e1, e2, e3, e4⟩⟩ := h
  · exact ⟨h1, .inl h2⟩
  · exact ⟨h1, .inr ⟨d, vs, e1, e2, s _ _ e3, e4.mono s⟩⟩
def SlR (S : Sx) (H0 H G : Hp) (ov : Option V) : Sl → Prop
  | .un => True
  | .va d => ∃ v, ov = some v ∧ Rp G v d
  | .ow ds => ∃ p vs, ov = some (.ref p) ∧ H p = some (.lst vs) ∧ G p = none ∧ H0 p = none ∧ RpL G vs ds
  | .od es => ∃ p kvs, ov = some (.ref p) ∧ H p = some (.dK kvs) ∧ G p = none ∧ H0 p = none ∧ RpK G kvs es
  | .ex e => ∃ a cls dd, S.xa = some (a, cls, dd) ∧ ov = some (.ref a) ∧ ErR S.ca S.cf G e cls dd
  | .ot k d => ∃ v fp, ov = some v ∧ RT H G k v d fp ∧ fp.Nodup ∧ ∀ p ∈ fp, H0 p = none
/-- the objects that a slot owns -/
def FP (H G : Hp) (o : Option (Option V)) (p : Addr) : Sl → Prop
  | .ow _ => o = some (some (.ref p))
  | .od _ => o = some (some (.ref p))
  | .ot k d => ∃ v fp, o = some (some v) ∧ RT H G k v d fp ∧ p ∈ fp
  | _ => False
structure Ok (S : Sx) (H0 G0 : Hp) (σ : St) (H G : Hp) (ρ : Rho) : Prop where
  st : Step H0 G0 H G
  len : σ.length = ρ.length
  sl : ∀ (i : Nat) (s : Sl), ρ[i]? = some s → ∃ ov, σ[i]? = some ov ∧ SlR S H0 H G ov s
  sep : ∀ (i j : Nat) (a b : Sl) (p : Addr), i ≠ j → ρ[i]? = some a → ρ[j]? = some b → FP H G σ[i]? p a → FP H G σ[j]? p b → False

section
variable {S : Sx} {H0 G0 H G H' G' : Hp} {σ : St} {ρ : Rho}
theorem FP.own {o : Option (Option V)} {p : Addr} {s : Sl} (h : FP H G o p s) : isOwn s = true := by
  cases s with
  | ow _ => rfl
  | od _ => rfl
  | ot _ _ => rfl
  | _ => exact h.elim
/-- what an own slot holds stands in H, and not for good -/
theorem FP.inn {ov : Option V} {p : Addr} {s : Sl} (r : SlR S H0 H G ov s) (h : FP H G (some ov) p s) : H p ≠ none ∧ G p = none ∧ H0 p = none := by
  cases s with
  | ow ds =>
    obtain ⟨q, vs, a, b, c, d, _⟩ := r
    have h : some ov = some (some (V.ref p)) := h
    rw [a] at h
    cases h
    exact ⟨by rw [b]; exact Option.some_ne_none _, c, d⟩
  | od ds =>
    obtain ⟨q, vs, a, b, c, d, _⟩ := r
    have h : some ov = some (some (V.ref p)) := h
    rw [a] at h
    cases h
    exact ⟨by rw [b]; exact Option.some_ne_none _, c, d⟩
  | ot k d =>
    obtain ⟨v, fp, a, b, c, e⟩ := r
    obtain ⟨v', fp', a', b', c'⟩ := h
    rw [a] at a'
    cases a'
    rw [← b.uniq b'] at c'
    exact ⟨(b.own p c').1, (b.own p c').2, e p c'⟩
  | _ => exact h.elim
theorem FP.back {ov : Option V} {p : Addr} {s : Sl} (r : SlR S H0 H G ov s) (t : ∀ v k d f, ov = some v → RT H G k v d f → s = .ot k d → RT H' G' k v d f) (h : FP H' G' (some ov) p s) : FP H G (some ov) p s := by
  cases s with
  | ow ds => exact h
  | od ds => exact h
  | ot k d =>
    obtain ⟨v, fp, a, b, c, e⟩ := r
    obtain ⟨v', fp', a', b', c'⟩ := h
    rw [a] at a'
    cases a'
    rw [← (t _ _ _ _ a b rfl).uniq b'] at c'
    exact ⟨v, fp, by rw [a], b, c'⟩
  | _ => exact h.elim
theorem Ok.fpIn (k : Ok S H0 G0 σ H G ρ) {j : Nat} {b : Sl} {p : Addr} (e : ρ[j]? = some b) (h : FP H G σ[j]? p b) : H p ≠ none ∧ G p = none ∧ H0 p = none := by
  obtain ⟨ov, e1, e2⟩ := k.sl j b e
  rw [e1] at h
  exact h.inn e2
theorem Ok.step (k : Ok S H0 G0 σ H G ρ) (t : Step H G H' G') : Ok S H0 G0 σ H' G' ρ where
  st := k.st.trans t
  len := k.len
  sep := fun i j a b p ne ea eb ha hb => by
    obtain ⟨ov, e1, e2⟩ := k.sl i a ea
    obtain ⟨ow, f1, f2⟩ := k.sl j b eb
    rw [e1] at ha
    rw [f1] at hb
    exact k.sep i j a b p ne ea eb (by rw [e1]; exact ha.back e2 fun _ _ _ _ _ r _ => r.step t) (by rw [f1]; exact hb.back f2 fun _ _ _ _ _ r _ => r.step t)
  sl := fun i s e => by
    obtain ⟨ov, e1, e2⟩ := k.sl i s e
    refine ⟨ov, e1, ?_⟩
    cases s with
    | un => exact trivial
    | va d =>
      obtain ⟨v, a, b⟩ := e2
      exact ⟨v, a, b.mono t.gg⟩
    | ow ds =>
      obtain ⟨p, vs, a, b, c, d, f⟩ := e2
      exact ⟨p, vs, a, t.hh _ _ b, t.sep p c (fun z => by rw [b] at z; cases z), d, f.mono t.gg⟩
    | od ds =>
      obtain ⟨p, vs, a, b, c, d, f⟩ := e2
      exact ⟨p, vs, a, t.hh _ _ b, t.sep p c (fun z => by rw [b] at z; cases z), d, f.mono t.gg⟩
    | ex er =>
      obtain ⟨a, cls, dd, e1, e2, e3⟩ := e2
      exact ⟨a, cls, dd, e1, e2, e3.mono t.gg⟩
    | ot k d =>
      obtain ⟨v, fp, a, b, c, e⟩ := e2
      exact ⟨v, fp, a, b.step t, c, e⟩
theorem set_get {α : Type} {l : List α} {i j : Nat} {x y : α} (h : (l.set i x)[j]? = some y) : (i = j ∧ x = y) ∨ (i ≠ j ∧ l[j]? = some y) := by
  by_cases e : i = j
  · subst e
    rw [List.getElem?_set] at h
    simp only [if_pos] at h
    split at h
    · exact .inl ⟨rfl, Option.some.inj h⟩
    · cases h
  · rw [List.getElem?_set_ne e] at h
    exact .inr ⟨e, h⟩
/-- a slot gets a new thing; what it owns no other slot owns -/
theorem Ok.setA (k : Ok S H0 G0 σ H G ρ) {i : Nat} {ov : Option V} {s : Sl} (h : SlR S H0 H G ov s) (hn : ∀ (j : Nat) (b : Sl) (p : Addr), j ≠ i → ρ[j]? = some b → FP H G (some ov) p s → FP H G σ[j]? p b → False) : Ok S H0 G0 (σ.set i ov) H G (ρ.set i s) where
  st := k.st
  len := by rw [List.length_set, List.length_set]; exact k.len
  sl := fun j s' e => by
    rcases set_get e with ⟨rfl, rfl⟩ | ⟨ne, e⟩
    · have : i < ρ.length := by
        rcases Nat.lt_or_ge i ρ.length with z | z
        · exact z
        · rw [List.getElem?_eq_none (by rw [List.length_set]; exact z)] at e; cases e
      refine ⟨ov, ?_, h⟩
      rw [List.getElem?_set_self (by rw [k.len]; exact this)]
    · obtain ⟨ov', e1, e2⟩ := k.sl j s' e
      exact ⟨ov', by rw [List.getElem?_set_ne ne]; exact e1, e2⟩
  sep := fun a b x y p ne ea eb ha hb => by
    have at_i : ∀ {z : Sl}, (ρ.set i s)[i]? = some z → (σ.set i ov)[i]? = some ov := fun {z} e => by
      have : i < ρ.length := by
        rcases Nat.lt_or_ge i ρ.length with z | z
        · exact z
        · rw [List.getElem?_eq_none (by rw [List.length_set]; exact z)] at e; cases e
      rw [List.getElem?_set_self (by rw [k.len]; exact this)]
    rcases set_get ea with ⟨rfl, rfl⟩ | ⟨n1, ea'⟩
    · rcases set_get eb with ⟨rfl, rfl⟩ | ⟨n2, eb'⟩
      · exact ne rfl
      · rw [at_i ea] at ha
        rw [List.getElem?_set_ne n2] at hb
        exact hn b y p (Ne.symm ne) eb' ha hb
    · rcases set_get eb with ⟨rfl, rfl⟩ | ⟨n2, eb'⟩
      · rw [at_i eb] at hb
        rw [List.getElem?_set_ne n1] at ha
        exact hn a x p ne ea' hb ha
      · rw [List.getElem?_set_ne n1] at ha
        rw [List.getElem?_set_ne n2] at hb
        exact k.sep a b x y p ne ea' eb' ha hb
/-- a slot gets a value that stands for good, or nothing that is told -/
theorem Ok.setG (k : Ok S H0 G0 σ H G ρ) {i : Nat} {ov : Option V} {s : Sl} (no : isOwn s = false) (h : SlR S H0 H G ov s) : Ok S H0 G0 (σ.set i ov) H G (ρ.set i s) :=
  k.setA h fun j b p _ _ f _ => by rw [f.own] at no; cases no
theorem Ok.setV (k : Ok S H0 G0 σ H G ρ) {i : Nat} {v : V} {d : D} (h : Rp G v d) : Ok S H0 G0 (σ.set i (some v)) H G (ρ.set i (.va d)) := k.setG rfl ⟨v, rfl, h⟩
/-- an object that was not there is owned by none -/
theorem Ok.fresh (k : Ok S H0 G0 σ H G ρ) (t : Step H G H' G') {j : Nat} {b : Sl} {p : Addr} (hp : H p = none) (e : ρ[j]? = some b) (h : FP H' G' σ[j]? p b) : False := by
  obtain ⟨ov, e1, e2⟩ := k.sl j b e
  rw [e1] at h
  exact ((h.back e2 fun _ _ _ _ _ r _ => r.step t).inn e2).1 hp
/-- a slot gets a new thing; what it owns was not there -/
theorem Ok.setN (k : Ok S H0 G0 σ H G ρ) (t : Step H G H' G') {i : Nat} {ov : Option V} {s : Sl} (h : SlR S H0 H' G' ov s) (hp : ∀ p, FP H' G' (some ov) p s → H p = none) : Ok S H0 G0 (σ.set i ov) H' G' (ρ.set i s) :=
  (k.step t).setA h fun j b q _ e f g => k.fresh t (hp q f) e g
/-- a slot gets a new object of one's own -/
theorem Ok.setO (k : Ok S H0 G0 σ H G ρ) (t : Step H G H' G') {i : Nat} {p : Addr} {s : Sl} (fl : ∀ k d, s ≠ .ot k d) (h : SlR S H0 H' G' (some (.ref p)) s) (hp : H p = none) : Ok S H0 G0 (σ.set i (some (.ref p))) H' G' (ρ.set i s) :=
  k.setN t h fun q f => by
    have : q = p := by
      cases s with
      | ow _ =>
        have f : some (some (V.ref p)) = some (some (V.ref q)) := f
        cases f
        rfl
      | od _ =>
        have f : some (some (V.ref p)) = some (some (V.ref q)) := f
        cases f
        rfl
      | ot k d => exact absurd rfl (fl k d)
      | _ => exact f.elim
    rw [this]
    exact hp
/-- a slot gets a new tree of one's own -/
theorem Ok.setT (k : Ok S H0 G0 σ H G ρ) (t : Step H G H' G') {i : Nat} {v : V} {sh : Sh} {d : D} {fp : List Addr} (r : RT H' G' sh v d fp) (nd : fp.Nodup) (hp : ∀ p ∈ fp, H p = none) : Ok S H0 G0 (σ.set i (some v)) H' G' (ρ.set i (.ot sh d)) :=
  k.setN t ⟨v, fp, rfl, r, nd, fun p h => Same.free k.st.hh (hp p h)⟩ fun q f => by
    obtain ⟨v', fp', a', b', c'⟩ := f
    cases a'
    rw [← r.uniq b'] at c'
    exact hp q c'
/-- an own object is written -/
theorem Ok.wr (k : Ok S H0 G0 σ H G ρ) (t : Step H G H' G') {i : Nat} {p : Addr} {s s' : Sl} {o : HO} (es : ρ[i]? = some s) (fi : FP H G σ[i]? p s)
    (h : ∀ ov, σ[i]? = some ov → SlR S H0 (L2.upd H' p o) G' ov s') (fp : ∀ q, FP (L2.upd H' p o) G' σ[i]? q s' → FP H G σ[i]? q s ∨ H q = none) : Ok S H0 G0 σ (L2.upd H' p o) G' (ρ.set i s') := by
  obtain ⟨p1, p2, p3⟩ := k.fpIn es fi
  have g1 : G' p = none := t.sep p p2 p1
  have k1 := k.step t
  have nofi : ∀ (j : Nat) (b : Sl) (q : Addr), i ≠ j → ρ[j]? = some b → FP H' G' σ[j]? q b → FP H G σ[j]? q b := fun j b q ne e f => by
    obtain ⟨ov, e1, e2⟩ := k.sl j b e
    rw [e1] at f ⊢
    exact f.back e2 fun _ _ _ _ _ r _ => r.step t
  have keep : ∀ (j : Nat) (b : Sl), i ≠ j → ρ[j]? = some b → ∀ v sh d f, σ[j]? = some (some v) → RT H' G' sh v d f → b = .ot sh d → RT (L2.upd H' p o) G' sh v d f := by
    intro j b ne e v sh d f ev r eb
    subst eb
    refine r.mono (Same.refl _) fun q hq => ⟨(r.own q hq).2, ?_⟩
    rw [upd_ne]
    intro z
    subst z
    exact k.sep i j s _ q ne es e fi (nofi j _ q ne e ⟨v, f, ev, r, hq⟩)
  have sl' : ∀ (j : Nat) (t : Sl), (ρ.set i s')[j]? = some t → ∃ ov, σ[j]? = some ov ∧ SlR S H0 (L2.upd H' p o) G' ov t := fun j t e => by
    rcases set_get e with ⟨rfl, rfl⟩ | ⟨ne, e⟩
    · obtain ⟨ov, e1, _⟩ := k.sl i s es
      exact ⟨ov, e1, h ov e1⟩
    · obtain ⟨ov, e1, e2⟩ := k1.sl j t e
      refine ⟨ov, e1, ?_⟩
      cases t with
      | un => exact trivial
      | va d => exact e2
      | ex er => exact e2
      | ow ds =>
        obtain ⟨q, vs, a, b, c, d, f⟩ := e2
        subst a
        refine ⟨q, vs, rfl, ?_, c, d, f⟩
        rw [upd_ne]
        · exact b
        · intro z
          subst z
          exact k.sep i j s _ q ne es e fi e1
      | od ds =>
        obtain ⟨q, vs, a, b, c, d, f⟩ := e2
        subst a
        refine ⟨q, vs, rfl, ?_, c, d, f⟩
        rw [upd_ne]
        · exact b
        · intro z
          subst z
          exact k.sep i j s _ q ne es e fi e1
      | ot sh d =>
        obtain ⟨v, fp, a, b, c, f⟩ := e2
        subst a
        exact ⟨v, fp, rfl, keep j _ ne e v sh d fp e1 b rfl, c, f⟩
  have stp : Step H0 G0 (L2.upd H' p o) G' := ⟨fun a u e => by
      rw [upd_ne (ne_of_none e p3)]
      exact k1.st.hh a u e, k1.st.gg, fun a u e => by
      rw [upd_ne (ne_of_none e g1)]
      exact k1.st.sub a u e, k1.st.sep⟩
  refine ⟨stp, by rw [List.length_set]; exact k.len, sl', ?_⟩
  have old : ∀ (a : Nat) (x : Sl) (q : Addr), (ρ.set i s')[a]? = some x → FP (L2.upd H' p o) G' σ[a]? q x → (∃ y, ρ[a]? = some y ∧ FP H G σ[a]? q y) ∨ (i = a ∧ H q = none) := fun a x q ea ha => by
    rcases set_get ea with ⟨rfl, rfl⟩ | ⟨ne, ea⟩
    · rcases fp q ha with z | z
      · exact .inl ⟨s, es, z⟩
      · exact .inr ⟨rfl, z⟩
    · obtain ⟨ov, e1, e2⟩ := k1.sl a x ea
      refine .inl ⟨x, ea, nofi a x q ne ea ?_⟩
      rw [e1] at ha ⊢
      cases x with
      | ow _ => exact ha
      | od _ => exact ha
      | ot sh d =>
        obtain ⟨v, fp, a1, b, c, f⟩ := e2
        subst a1
        exact ha.back (S := S) (H0 := H0) ⟨v, fp, rfl, b, c, f⟩ fun v' sh' d' f' ev r' eq => by
          cases ev
          cases eq
          exact keep a _ ne ea _ _ _ f' e1 r' rfl
      | _ => exact ha.elim
  have inn : ∀ (a : Nat) (y : Sl) (q : Addr), ρ[a]? = some y → FP H G σ[a]? q y → H q ≠ none := fun a y q e f => (k.fpIn e f).1
  exact fun a b x y q ne ea eb ha hb => by
    rcases old a x q ea ha with ⟨x', ex, fx⟩ | ⟨ia, na⟩
    · rcases old b y q eb hb with ⟨y', ey, fy⟩ | ⟨ib, nb⟩
      · exact k.sep a b x' y' q ne ex ey fx fy
      · exact inn a x' q ex fx nb
    · rcases old b y q eb hb with ⟨y', ey, fy⟩ | ⟨ib, nb⟩
      · exact inn b y' q ey fy na
      · exact ne (ia.symm.trans ib)
/-- a flat own object is written -/
theorem Ok.write (k : Ok S H0 G0 σ H G ρ) {i : Nat} {p : Addr} {s s' : Sl} {o : HO} (es : ρ[i]? = some s) (os : isOwn s = true) (fl : ∀ k d, s ≠ .ot k d) (fl' : ∀ k d, s' ≠ .ot k d) (hp : σ[i]? = some (some (.ref p)))
    (h : SlR S H0 (L2.upd H p o) G (some (.ref p)) s') : Ok S H0 G0 σ (L2.upd H p o) G (ρ.set i s') := by
  have fi : FP H G σ[i]? p s := by
    cases s with
    | ow _ => exact hp
    | od _ => exact hp
    | ot k d => exact absurd rfl (fl k d)
    | _ => cases os
  refine k.wr (Step.refl k.st.sub) es fi (fun ov e => by rw [hp] at e; cases e; exact h) fun q f => .inl ?_
  have : q = p := by
    cases s' with
    | ow _ =>
      have f : σ[i]? = some (some (V.ref q)) := f
      rw [hp] at f
      cases f
      rfl
    | od _ =>
      have f : σ[i]? = some (some (V.ref q)) := f
      rw [hp] at f
      cases f
      rfl
    | ot k d => exact absurd rfl (fl' k d)
    | _ => exact f.elim
  rw [this]
  exact fi
/-- a slot owns less -/
theorem Ok.less (k : Ok S H0 G0 σ H G ρ) {i : Nat} {s s' : Sl} (es : ρ[i]? = some s) (h : ∀ ov, σ[i]? = some ov → SlR S H0 H G ov s')
    (f1 : ∀ q, FP H G σ[i]? q s' → FP H G σ[i]? q s) : Ok S H0 G0 σ H G (ρ.set i s') := by
  refine ⟨k.st, by rw [List.length_set]; exact k.len, fun a x e => ?_, fun a b x y q n1 ea eb fa fb => ?_⟩
  · rcases set_get e with ⟨rfl, rfl⟩ | ⟨n1, e⟩
    · obtain ⟨ov, e1, _⟩ := k.sl i s es
      exact ⟨ov, e1, h ov e1⟩
    · exact k.sl a x e
  · have old : ∀ (c : Nat) (z : Sl), (ρ.set i s')[c]? = some z → FP H G σ[c]? q z → ∃ z', ρ[c]? = some z' ∧ FP H G σ[c]? q z' := fun c z e f => by
      rcases set_get e with ⟨rfl, rfl⟩ | ⟨_, e⟩
      · exact ⟨s, es, f1 q f⟩
      · exact ⟨z, e, f⟩
    obtain ⟨x', ex, fx⟩ := old a x ea fa
    obtain ⟨y', ey, fy⟩ := old b y eb fb
    exact k.sep a b x' y' q n1 ex ey fx fy
/-- a part of what a slot owns goes to another slot -/
theorem Ok.move (k : Ok S H0 G0 σ H G ρ) {i j : Nat} {ov' : Option V} {s s' t : Sl} (es : ρ[i]? = some s) (h : ∀ ov, σ[i]? = some ov → SlR S H0 H G ov s') (ht : SlR S H0 H G ov' t)
    (f1 : ∀ q, FP H G σ[i]? q s' → FP H G σ[i]? q s) (f2 : ∀ q, FP H G (some ov') q t → FP H G σ[i]? q s) (f3 : ∀ q, FP H G σ[i]? q s' → FP H G (some ov') q t → False) : Ok S H0 G0 (σ.set j ov') H G ((ρ.set i s').set j t) := by
  have k1 := k.less es h f1
  refine k1.setA ht fun a b q n1 eb fa fb => ?_
  rcases set_get eb with ⟨rfl, rfl⟩ | ⟨n2, eb⟩
  · exact f3 q fb fa
  · exact k.sep i a s b q n2 es eb (f2 q fa) fb
end

/-! ### the judgements -/
inductive Kd where
  | e | s | b | o | m | d
  | w (k : Sh)
/-- a dict to be read: one's own, or frozen -/
def RD (H' G' : Hp) (v : V) (d : D) : Prop := ∃ p kvs es, d = .dict es ∧ v = .ref p ∧ (H' p = some (.dK kvs) ∨ ∃ o, H' p = some (.frz o (.dK kvs))) ∧ RpK G' kvs es
/-- the top may be one's own, what it holds stands for good -/
def RS (H' G' : Hp) (v : V) : D → Prop
  | .list ds => ∃ p vs, v = .ref p ∧ H' p = some (.lst vs) ∧ RpL G' vs ds
  | d => Rp G' v d
def RK : Kd → Hp → Hp → Hp → V → D → Prop
  | .e, _, _, G', v, d => Rp G' v d
  | .s, _, H', G', v, d => RS H' G' v d
  | .b, _, H', _, v, d => Rp H' v d
  | .o, H, H', G', v, d => ∃ p vs ds, d = .list ds ∧ v = .ref p ∧ H' p = some (.lst vs) ∧ H p = none ∧ G' p = none ∧ RpL G' vs ds
  | .m, H, H', G', v, d => ∃ p kvs es, d = .dict es ∧ v = .ref p ∧ H' p = some (.dK kvs) ∧ H p = none ∧ G' p = none ∧ RpK G' kvs es
  | .d, _, H', G', v, d => RD H' G' v d
  | .w k, H, H', G', v, d => ∃ fp, RT H' G' k v d fp ∧ fp.Nodup ∧ ∀ p ∈ fp, H p = none
theorem RK.anti {k : Kd} {H H1 H' G' : Hp} {v : V} {d : D} (s : Same H H1) (h : RK k H1 H' G' v d) : RK k H H' G' v d := by
  cases k with
  | e => exact h
  | s => exact h
  | b => exact h
  | o =>
    obtain ⟨p, vs, ds, a, b, c, d, e, f⟩ := h
    exact ⟨p, vs, ds, a, b, c, Same.free s d, e, f⟩
  | m =>
    obtain ⟨p, vs, ds, a, b, c, d, e, f⟩ := h
    exact ⟨p, vs, ds, a, b, c, Same.free s d, e, f⟩
  | d => exact h
  | w k =>
    obtain ⟨fp, a, b, c⟩ := h
    exact ⟨fp, a, b, fun p hp => Same.free s (c p hp)⟩
def ExW (S : Sx) (σ : St) (H G : Hp) (er : Er) : Prop := ∀ c dd H' G', Step H G H' G' → ErR S.ca S.cf G' er c dd → S.W c dd σ H'
theorem ExW.step {S : Sx} {σ : St} {H G H1 G1 : Hp} {er : Er} (t : Step H G H1 G1) (h : ExW S σ H G er) : ExW S σ H1 G1 er := fun c dd H' G' t' q => h c dd H' G' (t.trans t') q
def TV (S : Sx) (k : Kd) (t : TE) (f : Rho → Rs D) : Prop := ∀ H0 G0 σ H G ρ (Q : VK), Ok S H0 G0 σ H G ρ → Wp (f ρ) (fun d => ∀ v H' G', Step H G H' G' → RK k H H' G' v d → Q v H') (ExW S σ H G) → t σ H Q
def XX (S : Sx) (k : Kd) (e : Expr) (f : Rho → Rs D) : Prop := ∃ t, PE S.X e t ∧ TV S k t f
def TB (S : Sx) (t : TT) (f : Rho → Rs Bool) : Prop := ∀ H0 G0 σ H G ρ (Q : Bool → Hp → Prop), Ok S H0 G0 σ H G ρ → Wp (f ρ) (fun b => ∀ H' G', Step H G H' G' → Q b H') (ExW S σ H G) → t σ H Q
def XT (S : Sx) (e : Expr) (f : Rho → Rs Bool) : Prop := ∃ t, PT S.X e t ∧ TB S t f
def RKL : Kd → Hp → Hp → List V → List D → Prop
  | .e, _, G', vs, ds => RpL G' vs ds
  | _, H', _, vs, ds => RpL H' vs ds
def TAr (S : Sx) (k : Kd) (t : TA) (f : Rho → Rs (List D)) : Prop := ∀ H0 G0 σ H G ρ (Q : List V → Hp → Prop), Ok S H0 G0 σ H G ρ → Wp (f ρ) (fun ds => ∀ vs H' G', Step H G H' G' → RKL k H' G' vs ds → Q vs H') (ExW S σ H G) → t σ H Q
def XA (S : Sx) (k : Kd) (es : List Expr) (f : Rho → Rs (List D)) : Prop := ∃ t, PA S.X es t ∧ TAr S k t f

theorem RS.of_e {H' G' : Hp} {v : V} {d : D} (s : Same G' H') (r : Rp G' v d) : RS H' G' v d := by
  cases d with
  | list ds =>
    obtain ⟨a, xs, rfl, h, hl⟩ := r.lst_inv
    exact ⟨a, xs, rfl, s _ _ h, hl⟩
  | dict es => exact r
  | none => exact r
  | bool b => exact r
  | int i => exact r
  | str x => exact r
  | tuple ds => exact r
theorem RS.to_b {H' G' : Hp} {v : V} {d : D} (s : Same G' H') (r : RS H' G' v d) : Rp H' v d := by
  cases d with
  | list ds =>
    obtain ⟨a, xs, rfl, h, hl⟩ := r
    exact .lst h (hl.mono s)
  | dict es => exact Rp.mono s r
  | none => exact Rp.mono s r
  | bool b => exact Rp.mono s r
  | int i => exact Rp.mono s r
  | str x => exact Rp.mono s r
  | tuple ds => exact Rp.mono s r
theorem RS.step {H G H' G' : Hp} {v : V} {d : D} (s : Step H G H' G') (r : RS H G v d) : RS H' G' v d := by
  cases d with
  | list ds =>
    obtain ⟨a, xs, rfl, h, hl⟩ := r
    exact ⟨a, xs, rfl, s.hh _ _ h, hl.mono s.gg⟩
  | dict es => exact Rp.mono s.gg r
  | none => exact Rp.mono s.gg r
  | bool b => exact Rp.mono s.gg r
  | int i => exact Rp.mono s.gg r
  | str x => exact Rp.mono s.gg r
  | tuple ds => exact Rp.mono s.gg r
section
variable {S : Sx} {t : TE} {f : Rho → Rs D}
theorem TV.e_s (h : TV S .e t f) : TV S .s t f := fun H0 G0 σ H G ρ Q k w => h H0 G0 σ H G ρ Q k (w.imp (fun d q v H' G' s r => q v H' G' s (RS.of_e s.sub r)) fun _ z => z)
theorem TV.s_b (h : TV S .s t f) : TV S .b t f := fun H0 G0 σ H G ρ Q k w => h H0 G0 σ H G ρ Q k (w.imp (fun d q v H' G' s r => q v H' G' s (RS.to_b s.sub r)) fun _ z => z)
theorem XX.e_s {e : Expr} (h : XX S .e e f) : XX S .s e f := let ⟨t, a, b⟩ := h; ⟨t, a, b.e_s⟩
theorem XX.s_b {e : Expr} (h : XX S .s e f) : XX S .b e f := let ⟨t, a, b⟩ := h; ⟨t, a, b.s_b⟩
theorem TV.e_b (h : TV S .e t f) : TV S .b t f := fun H0 G0 σ H G ρ Q k w => h H0 G0 σ H G ρ Q k (w.imp (fun d q v H' G' s r => q v H' G' s (r.mono s.sub)) fun _ z => z)
theorem TV.o_e (h : TV S .o t f) : TV S .e t f := fun H0 G0 σ H G ρ Q k w => h H0 G0 σ H G ρ Q k (w.imp (fun d q v H' G' s r => by
  obtain ⟨p, vs, ds, rfl, rfl, c, d, e, f⟩ := r
  exact q _ H' (upd G' p (.lst vs)) (s.give d c e) (.lst upd_same (f.mono (same_new e)))) fun _ z => z)
/-- what the expression gives is frozen for good: nobody writes it any more -/
def tFz (t : TE) : TE := fun σ H Q => t σ H fun v H1 => ∃ d u, v = .ref d ∧ H1 d = some u ∧ Mut (some u) ∧ ∀ od, Q v (upd H1 d (.frz od u))
theorem pe_fz {X : Cx} {e : Expr} {t : TE} (h : PE X e t) : PE X e (tFz t) := by
  refine ⟨fun pins s σ H Q I hw => ?_⟩
  refine thn (h.run pins s σ H _ I hw) fun u s1 ⟨x, H1, I1, rx, d, o, ex, hd, mu, q⟩ => ?_
  obtain ⟨od, I2⟩ := I1.lock hd mu
  exact ⟨x, _, I2, rx, q od⟩
theorem TV.m_e (h : TV S .m t f) : TV S .e (tFz t) f := fun H0 G0 σ H G ρ Q k w => h H0 G0 σ H G ρ _ k (w.imp (fun d q v H' G' s r => by
  obtain ⟨p, vs, ds, rfl, rfl, c, d, e, f⟩ := r
  exact ⟨p, _, rfl, c, trivial, fun od => q _ _ (upd G' p (.frz od (.dK vs))) (s.frz d e) (.dct upd_same (RpK.mono (same_new e) f))⟩) fun _ z => z)
theorem XX.e_b {e : Expr} (h : XX S .e e f) : XX S .b e f := let ⟨t, a, b⟩ := h; ⟨t, a, b.e_b⟩
theorem XX.o_e {e : Expr} (h : XX S .o e f) : XX S .e e f := let ⟨t, a, b⟩ := h; ⟨t, a, b.o_e⟩
theorem XX.m_e {e : Expr} (h : XX S .m e f) : XX S .e e f := let ⟨t, a, b⟩ := h; ⟨tFz t, pe_fz a, b.m_e⟩
/-- a borrowed scalar is a value -/
def fSc (f : Rho → Rs D) : Rho → Rs D := fun ρ => (f ρ).bind fun d => if scal1 d = true then .ok d else .stuck
theorem TV.sc (h : TV S .b t f) : TV S .e t (fSc f) := fun H0 G0 σ H G ρ Q k w => h H0 G0 σ H G ρ Q k (Wp.imp w.bind (fun d q v H' G' s r => by
  split at q
  · rename_i hs
    exact q v H' G' s (Rp.scal r hs)
  · exact q.elim) fun _ z => z)
theorem xx_sc {e : Expr} (h : XX S .b e f) : XX S .e e (fSc f) := let ⟨t, a, b⟩ := h; ⟨t, a, b.sc⟩
end

/-! ### names and constants -/
def fV (i : Nat) : Rho → Rs D := fun ρ => match ρ[i]? with
  | some (.va d) => .ok d
  | _ => .stuck
def fB (i : Nat) : Rho → Rs D := fun ρ => match ρ[i]? with
  | some (.va d) => .ok d
  | some (.ow ds) => .ok (.list ds)
  | _ => .stuck
def fC (d : D) : Rho → Rs D := fun _ => .ok d
section
variable {S : Sx}
theorem tv_var (i : Nat) : TV S .e (tVar i) (fV i) := fun H0 G0 σ H G ρ Q k w => by
  unfold fV at w
  cases e : ρ[i]? with
  | none => rw [e] at w; exact w.elim
  | some s =>
    obtain ⟨ov, e1, e2⟩ := k.sl i s e
    cases s with
    | va d =>
      rw [e] at w
      obtain ⟨v, rfl, r⟩ := e2
      exact ⟨v, e1, w v H G (Step.refl k.st.sub) r⟩
    | _ => rw [e] at w; exact w.elim
theorem tb_var (i : Nat) : TV S .s (tVar i) (fB i) := fun H0 G0 σ H G ρ Q k w => by
  unfold fB at w
  cases e : ρ[i]? with
  | none => rw [e] at w; exact w.elim
  | some s =>
    obtain ⟨ov, e1, e2⟩ := k.sl i s e
    cases s with
    | va d =>
      rw [e] at w
      obtain ⟨v, rfl, r⟩ := e2
      exact ⟨v, e1, w v H G (Step.refl k.st.sub) (RS.of_e k.st.sub r)⟩
    | ow d =>
      rw [e] at w
      obtain ⟨p, vs, rfl, a, b, c, r⟩ := e2
      exact ⟨_, e1, w _ H G (Step.refl k.st.sub) ⟨p, vs, rfl, a, r⟩⟩
    | _ => rw [e] at w; exact w.elim
theorem xv (i : Nat) {x : Str} {pos : Pos} (hN : S.X.N[i]? = some x := by rfl) (hv : Vis S.X.env.scope x := by first | exact Or.inl rfl | exact Or.inr (Or.inl rfl) | exact Or.inr (Or.inr rfl)) (hd : (x == ("__debug__" : Str)) = false := by decide)
    (hcd : (x == ("__classdict__" : Str)) = false := by decide) : XX S .e (.Name x pos) (fV i) := ⟨_, pe_var hN hv hd hcd, tv_var i⟩
theorem xb (i : Nat) {x : Str} {pos : Pos} (hN : S.X.N[i]? = some x := by rfl) (hv : Vis S.X.env.scope x := by first | exact Or.inl rfl | exact Or.inr (Or.inl rfl) | exact Or.inr (Or.inr rfl)) (hd : (x == ("__debug__" : Str)) = false := by decide)
    (hcd : (x == ("__classdict__" : Str)) = false := by decide) : XX S .s (.Name x pos) (fB i) := ⟨_, pe_var hN hv hd hcd, tb_var i⟩
theorem tv_c {v : V} {d : D} (h : ∀ G, Rp G v d) : TV S .e (tC v) (fC d) := fun H0 G0 σ H G ρ Q k w => w v H G (Step.refl k.st.sub) (h G)
theorem xi {i : Int} {j : Nat} {pos : Pos} : XX S .e (.Constant (.int i) j pos) (fC (.int i)) := ⟨_, pe_int, tv_c fun _ => .int i⟩
theorem xbl {b : Bool} {j : Nat} {pos : Pos} : XX S .e (.Constant (.bool b) j pos) (fC (.bool b)) := ⟨_, pe_bl, tv_c fun _ => .bl b⟩
theorem xn {j : Nat} {pos : Pos} : XX S .e (.Constant .none j pos) (fC .none) := ⟨_, pe_non, tv_c fun _ => .non⟩
end

/-! ### operators -/
def fBin (o : D → D → Rs D) (fa fb : Rho → Rs D) : Rho → Rs D := fun ρ => (fa ρ).bind fun x => (fb ρ).bind fun y => o x y
def fUn (o : D → Rs D) (fa : Rho → Rs D) : Rho → Rs D := fun ρ => (fa ρ).bind o
/-- the operands' kinds -/
def isEB : Kd → Prop
  | .e => True
  | .s => True
  | .b => True
  | .d => True
  | _ => False
/-- an operation by values; what it takes (ki, kj) and gives (k) -/
def OpS (ki kj k : Kd) (r : R2) (o : D → D → Rs D) : Prop := ∀ H G x y dx dy (Q : VK), Same G H → RK ki H H G x dx → RK kj H H G y dy → Wp (o dx dy) (fun d => ∀ v H' G', Step H G H' G' → RK k H H' G' v d → Q v H') (fun _ => False) → r x y H Q
def UnS (ki k : Kd) (r : V → Hp → VK → Prop) (o : D → Rs D) : Prop := ∀ H G x dx (Q : VK), Same G H → RK ki H H G x dx → Wp (o dx) (fun d => ∀ v H' G', Step H G H' G' → RK k H H' G' v d → Q v H') (fun _ => False) → r x H Q
/-- an operation raises nothing -/
def NoX {α : Type} (r : Rs α) : Prop := ∀ e, r ≠ .exc e
theorem Wp.noX {α : Type} {r : Rs α} {P : α → Prop} {E E' : Er → Prop} (n : NoX r) (h : Wp r P E) : Wp r P E' := by
  cases r with
  | ok a => exact h
  | exc e => exact absurd rfl (n e)
  | stuck => exact h
section
variable {S : Sx} {k : Kd} {r : R2} {ru : V → Hp → VK → Prop} {o : D → D → Rs D} {ou : D → Rs D} {ta tb : TE} {fa fb : Rho → Rs D}
theorem RD.step {H G H' G' : Hp} {v : V} {d : D} (s : Step H G H' G') (r : RD H G v d) : RD H' G' v d := by
  obtain ⟨p, kvs, es, a, b, c, f⟩ := r
  refine ⟨p, kvs, es, a, b, ?_, RpK.mono s.gg f⟩
  rcases c with c | ⟨o, c⟩
  · exact .inl (s.hh _ _ c)
  · exact .inr ⟨o, s.hh _ _ c⟩
theorem RK.carry {ki : Kd} (hk : isEB ki) {H H1 G1 H2 G2 : Hp} {v : V} {d : D} (s : Step H1 G1 H2 G2) (h : RK ki H H1 G1 v d) : RK ki H2 H2 G2 v d := by
  cases ki with
  | e => exact Rp.mono s.gg h
  | s => exact RS.step s h
  | b => exact Rp.mono s.hh h
  | o => exact hk.elim
  | m => exact hk.elim
  | d => exact RD.step s h
  | w k => exact hk.elim
theorem tv_op {ki kj : Kd} (hk : isEB ki) (hj : isEB kj) (nx : ∀ x y, NoX (o x y)) (ho : OpS ki kj k r o) (ha : TV S ki ta fa) (hb : TV S kj tb fb) : TV S k (tOp r ta tb) (fBin o fa fb) := fun H0 G0 σ H G ρ Q q w => by
  refine ha H0 G0 σ H G ρ _ q (Wp.imp w.bind (fun x wx v H1 G1 s1 r1 => ?_) fun _ z => z)
  have q1 := q.step s1
  refine hb H0 G0 σ H1 G1 ρ _ q1 (Wp.imp wx.bind (fun y wy u H2 G2 s2 r2 => ?_) fun e z => z.step s1)
  refine ho H2 G2 v u x y Q s2.sub (r1.carry hk s2) (r2.carry hj (Step.refl s2.sub)) (Wp.imp (Wp.noX (E' := fun _ => False) (nx x y) wy) (fun d qd v' H' G' s3 r3 => qd v' H' G' (s1.trans (s2.trans s3)) (RK.anti (s1.hh.trans s2.hh) r3)) fun _ z => z)
theorem tv_un {ki : Kd} (hk : isEB ki) (nx : ∀ x, NoX (ou x)) (ho : UnS ki k ru ou) (ha : TV S ki ta fa) : TV S k (tUn ru ta) (fUn ou fa) := fun H0 G0 σ H G ρ Q q w => by
  refine ha H0 G0 σ H G ρ _ q (Wp.imp w.bind (fun x wx v H1 G1 s1 r1 => ?_) fun _ z => z)
  refine ho H1 G1 v x Q s1.sub (r1.carry hk (Step.refl s1.sub)) (Wp.imp (Wp.noX (E' := fun _ => False) (nx x) wx) (fun d qd v' H' G' s3 r3 => qd v' H' G' (s1.trans s3) (RK.anti s1.hh r3)) fun _ z => z)
end
end Ct

namespace Ct
open PySem PySem.Spec PyProof.Rows L2

/-! ### what the operators do to plain data -/
def sAdd : D → D → Rs D
  | .int i, .int j => .ok (.int (i + j))
  | .list a, .list b => if a.length + b.length ≤ sizeLine then .ok (.list (a ++ b)) else .stuck
  | _, _ => .stuck
def sAddI : D → D → Rs D
  | .int i, .int j => .ok (.int (i + j))
  | _, _ => .stuck
def sCat : D → D → Rs D
  | .list a, .list b => if a.length + b.length ≤ sizeLine then .ok (.list (a ++ b)) else .stuck
  | _, _ => .stuck
def sRep : D → D → Rs D
  | .list a, .int k => if -(2 ^ 63) ≤ k ∧ k < 2 ^ 63 ∧ a.length * k.toNat ≤ sizeLine then .ok (.list (List.replicate k.toNat a).flatten) else .stuck
  | _, _ => .stuck
def sSub : D → D → Rs D
  | .int i, .int j => .ok (.int (i - j))
  | _, _ => .stuck
def sMul : D → D → Rs D
  | .int i, .int j => if i.natAbs.log2 + j.natAbs.log2 < 1000000 then .ok (.int (i * j)) else .stuck
  | .list a, .int k => if -(2 ^ 63) ≤ k ∧ k < 2 ^ 63 ∧ a.length * k.toNat ≤ sizeLine then .ok (.list (List.replicate k.toNat a).flatten) else .stuck
  | _, _ => .stuck
def sDiv : D → D → Rs D
  | .int i, .int j => if 0 < j ∧ j.natAbs.log2 < 9000 then .ok (.int (i / j)) else .stuck
  | _, _ => .stuck
def sMod : D → D → Rs D
  | .int i, .int j => if 0 < j then .ok (.int (i % j)) else .stuck
  | _, _ => .stuck
def sNeg : D → Rs D
  | .int i => .ok (.int (-i))
  | _ => .stuck
def sLt : D → D → Rs D
  | .int i, .int j => .ok (.bool (decide (i < j)))
  | _, _ => .stuck
def sLe : D → D → Rs D
  | .int i, .int j => .ok (.bool (decide (i ≤ j)))
  | _, _ => .stuck
def sGt : D → D → Rs D
  | .int i, .int j => .ok (.bool (decide (j < i)))
  | _, _ => .stuck
def sGe : D → D → Rs D
  | .int i, .int j => .ok (.bool (decide (j ≤ i)))
  | _, _ => .stuck
def sEq (x y : D) : Rs D := match x, y with
  | .int i, .int j => .ok (.bool (decide (i = j)))
  | x, y => if SeqAt.shaped x = true ∧ SeqAt.shaped y = true then .ok (.bool (PyData.eqv x y)) else .stuck
def sNe (x y : D) : Rs D := match x, y with
  | .int i, .int j => .ok (.bool (!decide (i = j)))
  | x, y => if SeqAt.shaped x = true ∧ SeqAt.shaped y = true then .ok (.bool (!PyData.eqv x y)) else .stuck
def sIsN (x : D) : Rs D := match x with
  | .none => .ok (.bool true)
  | _ => .ok (.bool false)
def sNotN (x : D) : Rs D := match x with
  | .none => .ok (.bool false)
  | _ => .ok (.bool true)
def sIx (x i : D) : Rs D := match x, i with
  | .list ds, .int i => match atI ds i with
    | some d => .ok d
    | none => .stuck
  | .tuple ds, .int i => match atI ds i with
    | some d => .ok d
    | none => .stuck
  | .dict [(.bool true, .list ds)], .int i => match atI ds i with
    | some d => .ok d
    | none => .stuck
  | _, _ => .stuck
def sLen : D → Rs D
  | .list ds => .ok (.int (ds.length : Int))
  | .tuple ds => .ok (.int (ds.length : Int))
  | .dict [(.bool true, .list ds)] => .ok (.int (ds.length : Int))
  | _ => .stuck
def sAbs : D → Rs D
  | .int i => .ok (.int (if i < 0 then -i else i))
  | _ => .stuck
def sInt : D → Rs D
  | .int i => .ok (.int i)
  | .bool k => .ok (.int (if k then 1 else 0))
  | _ => .stuck
def sMin2 : D → D → Rs D
  | .int i, .int j => .ok (.int (if j < i then j else i))
  | _, _ => .stuck
def sMax2 : D → D → Rs D
  | .int i, .int j => .ok (.int (if j > i then j else i))
  | _, _ => .stuck
/-- the intsD of a list of intsD -/
def intsD : List D → Option (List Int)
  | [] => some []
  | .int i :: r => (intsD r).map (i :: ·)
  | _ :: _ => none
theorem intsD_map : ∀ ns : List Int, intsD (ns.map PyData.int) = some ns
  | [] => rfl
  | n :: ns => by
    show (intsD (ns.map PyData.int)).map (n :: ·) = _
    rw [intsD_map ns]
    rfl
theorem intsD_eq : ∀ {ds : List D} {ns : List Int}, intsD ds = some ns → ds = ns.map PyData.int
  | [], ns, h => by cases h; rfl
  | .int i :: r, ns, h => by
    have h : (intsD r).map (i :: ·) = some ns := h
    cases e : intsD r with
    | none => rw [e] at h; cases h
    | some ms =>
      rw [e] at h
      cases h
      rw [intsD_eq e]
      rfl
  | .none :: _, _, h => by cases h
  | .bool _ :: _, _, h => by cases h
  | .str _ :: _, _, h => by cases h
  | .list _ :: _, _, h => by cases h
  | .tuple _ :: _, _, h => by cases h
  | .dict _ :: _, _, h => by cases h
def sSum : D → Rs D
  | .list ds => match intsD ds with
    | some ns => .ok (.int ns.sum)
    | none => .stuck
  | _ => .stuck
def lmax : List Int → Int
  | [] => 0
  | n :: ns => ns.foldl (fun a b => if b > a then b else a) n
def lmin : List Int → Int
  | [] => 0
  | n :: ns => ns.foldl (fun a b => if b < a then b else a) n
theorem foldmax (ns : List Int) : ∀ n : Int, (ns.foldl (fun a b => if b > a then b else a) n ∈ n :: ns) ∧ ∀ y ∈ n :: ns, y ≤ ns.foldl (fun a b => if b > a then b else a) n := by
  induction ns with
  | nil => intro n; exact ⟨List.mem_cons_self, fun y h => by rw [List.mem_singleton.mp h]; exact Int.le_refl n⟩
  | cons m ms ih =>
    intro n
    rw [List.foldl_cons]
    obtain ⟨a, b⟩ := ih (if m > n then m else n)
    refine ⟨?_, fun y h => ?_⟩
    · rcases List.mem_cons.mp a with z | z
      · rw [z]
        split
        · exact List.mem_cons_of_mem _ List.mem_cons_self
        · exact List.mem_cons_self
      · exact List.mem_cons_of_mem _ (List.mem_cons_of_mem _ z)
    · have c := b _ List.mem_cons_self
      rcases List.mem_cons.mp h with rfl | h
      · refine Int.le_trans ?_ c
        split <;> omega
      · rcases List.mem_cons.mp h with rfl | h
        · refine Int.le_trans ?_ c
          split <;> omega
        · exact b y (List.mem_cons_of_mem _ h)
theorem foldmin (ns : List Int) : ∀ n : Int, (ns.foldl (fun a b => if b < a then b else a) n ∈ n :: ns) ∧ ∀ y ∈ n :: ns, ns.foldl (fun a b => if b < a then b else a) n ≤ y := by
  induction ns with
  | nil => intro n; exact ⟨List.mem_cons_self, fun y h => by rw [List.mem_singleton.mp h]; exact Int.le_refl n⟩
  | cons m ms ih =>
    intro n
    rw [List.foldl_cons]
    obtain ⟨a, b⟩ := ih (if m < n then m else n)
    refine ⟨?_, fun y h => ?_⟩
    · rcases List.mem_cons.mp a with z | z
      · rw [z]
        split
        · exact List.mem_cons_of_mem _ List.mem_cons_self
        · exact List.mem_cons_self
      · exact List.mem_cons_of_mem _ (List.mem_cons_of_mem _ z)
    · have c := b _ List.mem_cons_self
      rcases List.mem_cons.mp h with rfl | h
      · refine Int.le_trans c ?_
        split <;> omega
      · rcases List.mem_cons.mp h with rfl | h
        · refine Int.le_trans c ?_
          split <;> omega
        · exact b y (List.mem_cons_of_mem _ h)
theorem lmax_mem : ∀ {ns : List Int}, ns ≠ [] → lmax ns ∈ ns
  | [], h => absurd rfl h
  | n :: ns, _ => (foldmax ns n).1
theorem lmax_le : ∀ {ns : List Int} {y : Int}, y ∈ ns → y ≤ lmax ns
  | n :: ns, y, h => (foldmax ns n).2 y h
theorem lmin_mem : ∀ {ns : List Int}, ns ≠ [] → lmin ns ∈ ns
  | [], h => absurd rfl h
  | n :: ns, _ => (foldmin ns n).1
theorem lmin_le : ∀ {ns : List Int} {y : Int}, y ∈ ns → lmin ns ≤ y
  | n :: ns, y, h => (foldmin ns n).2 y h
def sMax : D → Rs D
  | .list ds => match intsD ds with
    | some (n :: ns) => .ok (.int (lmax (n :: ns)))
    | _ => .stuck
  | _ => .stuck
def sMin : D → Rs D
  | .list ds => match intsD ds with
    | some (n :: ns) => .ok (.int (lmin (n :: ns)))
    | _ => .stuck
  | _ => .stuck
def insI (n : Int) : List Int → List Int
  | [] => [n]
  | m :: r => if n ≤ m then n :: m :: r else m :: insI n r
def sortI : List Int → List Int
  | [] => []
  | n :: r => insI n (sortI r)
theorem insI_perm (n : Int) : ∀ l : List Int, (insI n l).Perm (n :: l)
  | [] => List.Perm.refl _
  | m :: r => by
    unfold insI
    split
    · exact List.Perm.refl _
    · exact ((insI_perm n r).cons m).trans (List.Perm.swap n m r)
theorem sortI_perm : ∀ l : List Int, (sortI l).Perm l
  | [] => List.Perm.refl _
  | n :: r => (insI_perm n (sortI r)).trans ((sortI_perm r).cons n)
theorem insI_mem {n x : Int} {l : List Int} : x ∈ insI n l ↔ x = n ∨ x ∈ l := by
  rw [(insI_perm n l).mem_iff, List.mem_cons]
theorem insI_sorted (n : Int) : ∀ l : List Int, l.Pairwise (· ≤ ·) → (insI n l).Pairwise (· ≤ ·)
  | [], _ => List.pairwise_singleton _ _
  | m :: r, h => by
    unfold insI
    rw [List.pairwise_cons] at h
    split
    · rename_i c
      refine List.pairwise_cons.mpr ⟨fun y hy => ?_, List.pairwise_cons.mpr h⟩
      rcases List.mem_cons.mp hy with rfl | hy
      · exact c
      · exact Int.le_trans c (h.1 y hy)
    · rename_i c
      refine List.pairwise_cons.mpr ⟨fun y hy => ?_, insI_sorted n r h.2⟩
      rcases insI_mem.mp hy with rfl | hy
      · omega
      · exact h.1 y hy
theorem sortI_sorted : ∀ l : List Int, (sortI l).Pairwise (· ≤ ·)
  | [] => List.Pairwise.nil
  | n :: r => insI_sorted n _ (sortI_sorted r)
theorem perm_sorted_eq : ∀ {l m : List Int}, l.Perm m → l.Pairwise (· ≤ ·) → m.Pairwise (· ≤ ·) → l = m
  | [], m, p, _, _ => (List.nil_perm.mp p).symm ▸ rfl
  | a :: l, [], p, _, _ => absurd p.symm (by intro z; exact absurd (List.nil_perm.mp z) (by simp))
  | a :: l, b :: m, p, h, k => by
    rw [List.pairwise_cons] at h k
    have e : a = b := by
      have x : a ∈ b :: m := p.mem_iff.mp List.mem_cons_self
      have y : b ∈ a :: l := p.mem_iff.mpr List.mem_cons_self
      rcases List.mem_cons.mp x with rfl | x
      · rfl
      · rcases List.mem_cons.mp y with rfl | y
        · rfl
        · have := h.1 b y
          have := k.1 a x
          omega
    subst e
    rw [perm_sorted_eq ((List.perm_cons a).mp p) h.2 k.2]
theorem sortI_eq {ns ns' : List Int} (p : ns'.Perm ns) (h : ns'.Pairwise (· ≤ ·)) : ns' = sortI ns := perm_sorted_eq (p.trans (sortI_perm ns).symm) h (sortI_sorted ns)
def sSorted : D → Rs D
  | .list ds => match intsD ds with
    | some ns => .ok (.list ((sortI ns).map PyData.int))
    | none => .stuck
  | _ => .stuck
def sList : D → Rs D
  | .list ds => .ok (.list ds)
  | .tuple ds => .ok (.list ds)
  | _ => .stuck
/-- xs[lo:hi] -/
def cutD (xs : List D) (lo hi : Option Int) : List D := (xs.drop (HT.sIx xs.length 0 lo)).take (HT.sIx xs.length xs.length hi - HT.sIx xs.length 0 lo)
def flatD : D → Bool
  | .none => true
  | .bool _ => true
  | .int _ => true
  | _ => false
def inD (x : D) (xs : List D) : Bool := xs.any fun y => PyData.eqv y x
def hasK (n : Int) (es : List (D × D)) : Bool := es.any fun p => match p.1 with
  | .int m => m == n
  | _ => false
def sIn (x y : D) : Rs D := match x, y with
  | x, .list ds => if flatD x = true ∧ ds.all flatD = true then .ok (.bool (inD x ds)) else .stuck
  | x, .tuple ds => if flatD x = true ∧ ds.all flatD = true then .ok (.bool (inD x ds)) else .stuck
  | _, _ => .stuck
def sNotIn (x y : D) : Rs D := match x, y with
  | x, .list ds => if flatD x = true ∧ ds.all flatD = true then .ok (.bool (!inD x ds)) else .stuck
  | x, .tuple ds => if flatD x = true ∧ ds.all flatD = true then .ok (.bool (!inD x ds)) else .stuck
  | _, _ => .stuck

/-! ### the rules -/
theorem noX_ok {α : Type} (a : α) : NoX (Rs.ok a) := fun _ h => nomatch h
theorem noX_stuck {α : Type} : NoX (Rs.stuck : Rs α) := fun _ h => nomatch h
theorem noX_if {α : Type} {c : Prop} [Decidable c] {a b : Rs α} (ha : NoX a) (hb : NoX b) : NoX (if c then a else b) := by split <;> assumption
section
variable {S : Sx} {a b : Expr} {fa fb : Rho → Rs D} {pos : Pos}
/-- an int operator without a condition -/
theorem ops_int {g : Int → Int → D} {r : R2} {o : D → D → Rs D} {gv : Int → Int → V} (hr : ∀ i j H (Q : VK), Q (gv i j) H → r (.int i) (.int j) H Q) (hg : ∀ G i j, Rp G (gv i j) (g i j))
    (h1 : ∀ i j, o (.int i) (.int j) = .ok (g i j)) (h2 : ∀ x y, (∃ i j, x = .int i ∧ y = .int j) ∨ o x y = .stuck) : OpS .e .e .e r o := fun H G x y dx dy Q s hx hy w => by
  rcases h2 dx dy with ⟨i, j, rfl, rfl⟩ | z
  · cases Rp.int_inv hx
    cases Rp.int_inv hy
    rw [h1] at w
    exact hr i j H Q (w _ H G (Step.refl s) (hg G i j))
  · rw [z] at w
    exact w.elim
theorem ops_add : OpS .e .e .e (fun x y H Q => rI0 (fun i j => V.int (i + j)) x y H Q ∨ rCat x y H Q) sAdd := fun H G x y dx dy Q s hx hy w => by
  unfold sAdd at w
  split at w
  · cases Rp.int_inv hx
    cases Rp.int_inv hy
    exact .inl ⟨_, _, rfl, rfl, w _ H G (Step.refl s) (.int _)⟩
  · split at w
    · rename_i hl
      obtain ⟨p, xs, rfl, h1, l1⟩ := Rp.lst_inv hx
      obtain ⟨q, ys, rfl, h2, l2⟩ := Rp.lst_inv hy
      refine .inr ⟨p, q, xs, ys, rfl, rfl, s _ _ h1, s _ _ h2, by rw [l1.length, l2.length]; exact hl, fun n hn => ?_⟩
      exact w _ _ _ (Step.new s hn) (.lst upd_same ((l1.append l2).mono (same_new (Same.free s hn))))
    · exact w.elim
  · exact w.elim
theorem ops_cat : OpS .e .e .o rCat sCat := fun H G x y dx dy Q s hx hy w => by
  unfold sCat at w
  split at w
  · split at w
    · rename_i hl
      obtain ⟨p, xs, rfl, h1, l1⟩ := Rp.lst_inv hx
      obtain ⟨q, ys, rfl, h2, l2⟩ := Rp.lst_inv hy
      refine ⟨p, q, xs, ys, rfl, rfl, s _ _ h1, s _ _ h2, by rw [l1.length, l2.length]; exact hl, fun n hn => ?_⟩
      exact w _ _ _ (Step.newO s hn) ⟨n, _, _, rfl, rfl, upd_same, hn, Same.free s hn, l1.append l2⟩
    · exact w.elim
  · exact w.elim
theorem RpL.rep_flat {G : Hp} {xs : List V} {ds : List D} (h : RpL G xs ds) : ∀ n : Nat, RpL G (List.replicate n xs).flatten (List.replicate n ds).flatten
  | 0 => .nil
  | n + 1 => by
    rw [List.replicate_succ, List.replicate_succ, List.flatten_cons, List.flatten_cons]
    exact h.append (RpL.rep_flat h n)
theorem ops_mul : OpS .e .e .e (fun x y H Q => rI CMulW (fun i j => V.int (i * j)) x y H Q ∨ rRep x y H Q) sMul := fun H G x y dx dy Q s hx hy w => by
  unfold sMul at w
  split at w
  · split at w
    · rename_i hc
      cases Rp.int_inv hx
      cases Rp.int_inv hy
      exact .inl ⟨_, _, rfl, rfl, hc, w _ H G (Step.refl s) (.int _)⟩
    · exact w.elim
  · split at w
    · rename_i hl
      obtain ⟨p, xs, rfl, h1, l1⟩ := Rp.lst_inv hx
      cases Rp.int_inv hy
      refine .inr ⟨p, _, xs, rfl, rfl, s _ _ h1, hl.1, hl.2.1, by rw [l1.length]; exact hl.2.2, fun n hn => ?_⟩
      exact w _ _ _ (Step.new s hn) (.lst upd_same ((l1.rep_flat _).mono (same_new (Same.free s hn))))
    · exact w.elim
  · exact w.elim
theorem ops_rep : OpS .e .e .o rRep sRep := fun H G x y dx dy Q s hx hy w => by
  unfold sRep at w
  split at w
  · split at w
    · rename_i hl
      obtain ⟨p, xs, rfl, h1, l1⟩ := Rp.lst_inv hx
      cases Rp.int_inv hy
      refine ⟨p, _, xs, rfl, rfl, s _ _ h1, hl.1, hl.2.1, by rw [l1.length]; exact hl.2.2, fun n hn => ?_⟩
      exact w _ _ _ (Step.newO s hn) ⟨n, _, _, rfl, rfl, upd_same, hn, Same.free s hn, l1.rep_flat _⟩
    · exact w.elim
  · exact w.elim
theorem ops_div : OpS .e .e .e (rI CDivW fun i j => V.int (i / j)) sDiv := fun H G x y dx dy Q s hx hy w => by
  unfold sDiv at w
  split at w
  · split at w
    · rename_i hc
      cases Rp.int_inv hx
      cases Rp.int_inv hy
      exact ⟨_, _, rfl, rfl, hc, w _ H G (Step.refl s) (.int _)⟩
    · exact w.elim
  · exact w.elim
theorem ops_mod : OpS .e .e .e (rI (fun _ j => 0 < j) fun i j => V.int (i % j)) sMod := fun H G x y dx dy Q s hx hy w => by
  unfold sMod at w
  split at w
  · split at w
    · rename_i hc
      cases Rp.int_inv hx
      cases Rp.int_inv hy
      exact ⟨_, _, rfl, rfl, hc, w _ H G (Step.refl s) (.int _)⟩
    · exact w.elim
  · exact w.elim
theorem nx_add (x y : D) : NoX (sAdd x y) := by unfold sAdd; split <;> first | exact noX_ok _ | exact noX_stuck | exact noX_if (noX_ok _) noX_stuck
theorem nx_cat (x y : D) : NoX (sCat x y) := by unfold sCat; split <;> first | exact noX_ok _ | exact noX_stuck | exact noX_if (noX_ok _) noX_stuck
theorem nx_sub (x y : D) : NoX (sSub x y) := by unfold sSub; split <;> first | exact noX_ok _ | exact noX_stuck
theorem nx_mul (x y : D) : NoX (sMul x y) := by unfold sMul; split <;> first | exact noX_stuck | exact noX_if (noX_ok _) noX_stuck
theorem nx_rep (x y : D) : NoX (sRep x y) := by unfold sRep; split <;> first | exact noX_stuck | exact noX_if (noX_ok _) noX_stuck
theorem nx_div (x y : D) : NoX (sDiv x y) := by unfold sDiv; split <;> first | exact noX_stuck | exact noX_if (noX_ok _) noX_stuck
theorem nx_mod (x y : D) : NoX (sMod x y) := by unfold sMod; split <;> first | exact noX_stuck | exact noX_if (noX_ok _) noX_stuck
theorem nx_sorted (x : D) : NoX (sSorted x) := by
  unfold sSorted
  split
  · split <;> first | exact noX_ok _ | exact noX_stuck
  · exact noX_stuck
theorem two_ints {o : D → D → Rs D} (h : ∀ x y, (∃ i j, x = .int i ∧ y = .int j) ∨ o x y = .stuck) {g : Int → Int → D} (h1 : ∀ i j, o (.int i) (.int j) = .ok (g i j)) (x y : D) : NoX (o x y) := by
  rcases h x y with ⟨i, j, rfl, rfl⟩ | z
  · rw [h1]; exact noX_ok _
  · rw [z]; exact noX_stuck
theorem t_sub (x y : D) : (∃ i j, x = .int i ∧ y = .int j) ∨ sSub x y = .stuck := by unfold sSub; split; exact .inl ⟨_, _, rfl, rfl⟩; exact .inr rfl
theorem t_lt (x y : D) : (∃ i j, x = .int i ∧ y = .int j) ∨ sLt x y = .stuck := by unfold sLt; split; exact .inl ⟨_, _, rfl, rfl⟩; exact .inr rfl
theorem t_le (x y : D) : (∃ i j, x = .int i ∧ y = .int j) ∨ sLe x y = .stuck := by unfold sLe; split; exact .inl ⟨_, _, rfl, rfl⟩; exact .inr rfl
theorem t_gt (x y : D) : (∃ i j, x = .int i ∧ y = .int j) ∨ sGt x y = .stuck := by unfold sGt; split; exact .inl ⟨_, _, rfl, rfl⟩; exact .inr rfl
theorem t_ge (x y : D) : (∃ i j, x = .int i ∧ y = .int j) ∨ sGe x y = .stuck := by unfold sGe; split; exact .inl ⟨_, _, rfl, rfl⟩; exact .inr rfl
/-- two rules for one operation -/
theorem opor {X : Cx} {f : Value → Value → Sem Value} {r r' : R2} (h : OpR X f r) (h' : OpR X f r') : OpR X f (fun x y H Q => r x y H Q ∨ r' x y H Q) := OpR.or h h'
theorem xadd (ha : XX S .e a fa) (hb : XX S .e b fb) : XX S .e (.BinOp a .Add b pos) (fBin sAdd fa fb) :=
  let ⟨_, a1, a2⟩ := ha; let ⟨_, b1, b2⟩ := hb; ⟨_, pe_op (opor op_add op_cat) a1 b1, tv_op (ki := .e) (kj := .e) trivial trivial nx_add ops_add a2 b2⟩
theorem xcat (ha : XX S .e a fa) (hb : XX S .e b fb) : XX S .o (.BinOp a .Add b pos) (fBin sCat fa fb) :=
  let ⟨_, a1, a2⟩ := ha; let ⟨_, b1, b2⟩ := hb; ⟨_, pe_op op_cat a1 b1, tv_op (ki := .e) (kj := .e) trivial trivial nx_cat ops_cat a2 b2⟩
theorem xsub (ha : XX S .e a fa) (hb : XX S .e b fb) : XX S .e (.BinOp a .Sub b pos) (fBin sSub fa fb) :=
  let ⟨_, a1, a2⟩ := ha; let ⟨_, b1, b2⟩ := hb; ⟨_, pe_op op_sub a1 b1, tv_op (ki := .e) (kj := .e) trivial trivial nx_sub (ops_int (gv := fun i j => .int (i - j)) (fun i j H Q q => ⟨i, j, rfl, rfl, q⟩) (fun _ _ _ => .int _) (fun _ _ => rfl) t_sub) a2 b2⟩
theorem xmul (ha : XX S .e a fa) (hb : XX S .e b fb) : XX S .e (.BinOp a .Mult b pos) (fBin sMul fa fb) :=
  let ⟨_, a1, a2⟩ := ha; let ⟨_, b1, b2⟩ := hb; ⟨_, pe_op (opor op_mulW op_rep) a1 b1, tv_op (ki := .e) (kj := .e) trivial trivial nx_mul ops_mul a2 b2⟩
theorem xrep (ha : XX S .e a fa) (hb : XX S .e b fb) : XX S .o (.BinOp a .Mult b pos) (fBin sRep fa fb) :=
  let ⟨_, a1, a2⟩ := ha; let ⟨_, b1, b2⟩ := hb; ⟨_, pe_op op_rep a1 b1, tv_op (ki := .e) (kj := .e) trivial trivial nx_rep ops_rep a2 b2⟩
theorem xdiv (ha : XX S .e a fa) (hb : XX S .e b fb) : XX S .e (.BinOp a .FloorDiv b pos) (fBin sDiv fa fb) :=
  let ⟨_, a1, a2⟩ := ha; let ⟨_, b1, b2⟩ := hb; ⟨_, pe_op op_fdivW a1 b1, tv_op (ki := .e) (kj := .e) trivial trivial nx_div ops_div a2 b2⟩
theorem xmod (ha : XX S .e a fa) (hb : XX S .e b fb) : XX S .e (.BinOp a .Mod b pos) (fBin sMod fa fb) :=
  let ⟨_, a1, a2⟩ := ha; let ⟨_, b1, b2⟩ := hb; ⟨_, pe_op op_mod a1 b1, tv_op (ki := .e) (kj := .e) trivial trivial nx_mod ops_mod a2 b2⟩
/-- a power of two written numbers -/
theorem xpow {m n : Int} {j j' : Nat} {p p' : Pos} (h : CPow m n) : XX S .e (.BinOp (.Constant (.int m) j p) .Pow (.Constant (.int n) j' p') pos) (fC (.int (m ^ n.toNat))) :=
  ⟨_, pe_op op_pow pe_int pe_int, fun H0 G0 σ H G ρ Q q w => ⟨m, n, rfl, rfl, h, w _ H G (Step.refl q.st.sub) (.int _)⟩⟩
theorem xneg (ha : XX S .e a fa) : XX S .e (.UnaryOp .USub a pos) (fUn sNeg fa) :=
  let ⟨_, a1, a2⟩ := ha; ⟨_, pe_un un_neg a1, tv_un (ki := .e) trivial (fun x => by unfold sNeg; split <;> first | exact noX_ok _ | exact noX_stuck) (fun H G x dx Q s hx w => by
    unfold sNeg at w
    split at w
    · cases Rp.int_inv hx
      exact ⟨_, rfl, w _ H G (Step.refl s) (.int _)⟩
    · exact w.elim) a2⟩

/-! ### comparisons -/
theorem xlt (ha : XX S .e a fa) (hb : XX S .e b fb) : XX S .e (.Compare a [.Lt] [b] pos) (fBin sLt fa fb) :=
  let ⟨_, a1, a2⟩ := ha; let ⟨_, b1, b2⟩ := hb; ⟨_, pe_cmpR op_lt a1 b1 (nomark _), tv_op (ki := .e) (kj := .e) trivial trivial (two_ints t_lt (fun _ _ => rfl)) (ops_int (gv := fun i j => .bl (decide (i < j))) (fun i j H Q q => ⟨i, j, rfl, rfl, q⟩) (fun _ _ _ => .bl _) (fun _ _ => rfl) t_lt) a2 b2⟩
theorem xle (ha : XX S .e a fa) (hb : XX S .e b fb) : XX S .e (.Compare a [.LtE] [b] pos) (fBin sLe fa fb) :=
  let ⟨_, a1, a2⟩ := ha; let ⟨_, b1, b2⟩ := hb; ⟨_, pe_cmpR op_le a1 b1 (nomark _), tv_op (ki := .e) (kj := .e) trivial trivial (two_ints t_le (fun _ _ => rfl)) (ops_int (gv := fun i j => .bl (decide (i ≤ j))) (fun i j H Q q => ⟨i, j, rfl, rfl, q⟩) (fun _ _ _ => .bl _) (fun _ _ => rfl) t_le) a2 b2⟩
theorem xgt (ha : XX S .e a fa) (hb : XX S .e b fb) : XX S .e (.Compare a [.Gt] [b] pos) (fBin sGt fa fb) :=
  let ⟨_, a1, a2⟩ := ha; let ⟨_, b1, b2⟩ := hb; ⟨_, pe_cmpR op_gt a1 b1 (nomark _), tv_op (ki := .e) (kj := .e) trivial trivial (two_ints t_gt (fun _ _ => rfl)) (ops_int (gv := fun i j => .bl (decide (j < i))) (fun i j H Q q => ⟨i, j, rfl, rfl, q⟩) (fun _ _ _ => .bl _) (fun _ _ => rfl) t_gt) a2 b2⟩
theorem xge (ha : XX S .e a fa) (hb : XX S .e b fb) : XX S .e (.Compare a [.GtE] [b] pos) (fBin sGe fa fb) :=
  let ⟨_, a1, a2⟩ := ha; let ⟨_, b1, b2⟩ := hb; ⟨_, pe_cmpR op_ge a1 b1 (nomark _), tv_op (ki := .e) (kj := .e) trivial trivial (two_ints t_ge (fun _ _ => rfl)) (ops_int (gv := fun i j => .bl (decide (j ≤ i))) (fun i j H Q q => ⟨i, j, rfl, rfl, q⟩) (fun _ _ _ => .bl _) (fun _ _ => rfl) t_ge) a2 b2⟩
end
mutual
theorem Rp.dp {K : PySem.W.Frag} {G : Hp} : ∀ {v : V} {d : D}, Rp G v d → d.canLay0 = true → Dp K G v d
  | _, _, .non, _ => .non
  | _, _, .bl b, _ => .bl b
  | _, _, .int i, _ => .int i
  | _, _, .lst h hl, c => .lst (.of h) (RpL.dp hl c)
  | _, _, .tup h hl, c => .tup (.of h) (RpL.dp hl c)
  | _, _, .dct _ _, c => by cases c
  | _, _, .ins _ _, c => by cases c
  | _, _, .scr _ _, c => by cases c
theorem RpL.dp {K : PySem.W.Frag} {G : Hp} : ∀ {v : List V} {d : List D}, RpL G v d → PyData.canLayAll0 d = true → DpAll K G v d
  | _, _, .nil, _ => .nil
  | _, _, .cons h hl, c => by
    have c' := (Bool.and_eq_true_iff.mp c)
    exact .cons (Rp.dp h c'.1) (RpL.dp hl c'.2)
end
theorem wp_ok {α : Type} {a : α} {P : α → Prop} {E : Er → Prop} (h : Wp (.ok a) P E) : P a := h
section
variable {S : Sx} {a b : Expr} {fa fb : Rho → Rs D} {pos : Pos} {ka kb : Kd}
def isB : Kd → Prop
  | .e => True
  | .s => True
  | .b => True
  | _ => False
theorem RK.to_b {k : Kd} (hk : isB k) {H0 H G : Hp} {v : V} {d : D} (s : Same G H) (h : RK k H0 H G v d) : Rp H v d := by
  cases k with
  | e => exact Rp.mono s h
  | s => exact RS.to_b s h
  | b => exact h
  | o => exact hk.elim
  | m => exact hk.elim
  | d => exact hk.elim
  | w k => exact hk.elim
theorem ops_eq {K : PySem.W.Frag} (ha : isB ka) (hb : isB kb) : OpS ka kb .e (fun x y H Q => rEq x y H Q ∨ rEqD K x y H Q) sEq := fun H G x y dx dy Q s hx hy w => by
  have rx := hx.to_b ha s
  have ry := hy.to_b hb s
  unfold sEq at w
  split at w
  · cases Rp.int_inv rx
    cases Rp.int_inv ry
    refine .inl ⟨rfl, ?_⟩
    have := wp_ok w _ H G (Step.refl s) (.bl _)
    rename_i i j
    have e : decide (V.int i = V.int j) = decide (i = j) := by
      by_cases h : i = j
      · subst h; simp
      · rw [decide_eq_false h, decide_eq_false (fun z => h (V.int.inj z))]
    rw [e]
    exact this
  · split at w
    · rename_i h
      exact .inr ⟨_, _, rx.dp (SeqAt.canLay_of_shaped h.1), ry.dp (SeqAt.canLay_of_shaped h.2), h.1, h.2, wp_ok w _ H G (Step.refl s) (.bl _)⟩
    · exact w.elim
theorem ops_ne {K : PySem.W.Frag} (ha : isB ka) (hb : isB kb) : OpS ka kb .e (fun x y H Q => rNe x y H Q ∨ rNeD K x y H Q) sNe := fun H G x y dx dy Q s hx hy w => by
  have rx := hx.to_b ha s
  have ry := hy.to_b hb s
  unfold sNe at w
  split at w
  · cases Rp.int_inv rx
    cases Rp.int_inv ry
    refine .inl ⟨rfl, ?_⟩
    have := wp_ok w _ H G (Step.refl s) (.bl _)
    rename_i i j
    have e : decide (V.int i = V.int j) = decide (i = j) := by
      by_cases h : i = j
      · subst h; simp
      · rw [decide_eq_false h, decide_eq_false (fun z => h (V.int.inj z))]
    rw [e]
    exact this
  · split at w
    · rename_i h
      exact .inr ⟨_, _, rx.dp (SeqAt.canLay_of_shaped h.1), ry.dp (SeqAt.canLay_of_shaped h.2), h.1, h.2, wp_ok w _ H G (Step.refl s) (.bl _)⟩
    · exact w.elim
theorem nx_eq (x y : D) : NoX (sEq x y) := by unfold sEq; split <;> first | exact noX_ok _ | exact noX_if (noX_ok _) noX_stuck
theorem nx_ne (x y : D) : NoX (sNe x y) := by unfold sNe; split <;> first | exact noX_ok _ | exact noX_if (noX_ok _) noX_stuck
theorem xeq (hu : S.X.A.units + 64 < cLine) (ha : XX S .b a fa) (hb : XX S .b b fb) : XX S .e (.Compare a [.Eq] [b] pos) (fBin sEq fa fb) :=
  let ⟨_, a1, a2⟩ := ha; let ⟨_, b1, b2⟩ := hb; ⟨_, pe_cmpR (opor op_eq (op_eqD hu)) a1 b1 (nomark _), tv_op (ki := .b) (kj := .b) trivial trivial nx_eq (ops_eq trivial trivial) a2 b2⟩
theorem xne (hu : S.X.A.units + 64 < cLine) (ha : XX S .b a fa) (hb : XX S .b b fb) : XX S .e (.Compare a [.NotEq] [b] pos) (fBin sNe fa fb) :=
  let ⟨_, a1, a2⟩ := ha; let ⟨_, b1, b2⟩ := hb; ⟨_, pe_cmpR (opor op_ne (op_neD hu)) a1 b1 (nomark _), tv_op (ki := .b) (kj := .b) trivial trivial nx_ne (ops_ne trivial trivial) a2 b2⟩
/-- x is None -/
theorem Rp.isN {G : Hp} {v : V} {d : D} (h : Rp G v d) : sIsN d = .ok (.bool (decide (v = .non))) ∧ sNotN d = .ok (.bool (!decide (v = .non))) := by
  cases h <;> exact ⟨rfl, rfl⟩
theorem xisn {j : Nat} {p : Pos} (ha : XX S .b a fa) : XX S .e (.Compare a [.Is] [.Constant .none j p] pos) (fUn sIsN fa) :=
  let ⟨_, a1, a2⟩ := ha; ⟨_, pe_cmpR op_isN a1 pe_non (nomark _), fun H0 G0 σ H G ρ Q q w => by
    refine a2 H0 G0 σ H G ρ _ q (Wp.imp w.bind (fun x wx v H1 G1 s1 r1 => ?_) fun _ z => z)
    have e := (Rp.isN r1).1
    rw [e] at wx
    exact ⟨rfl, wx _ H1 G1 s1 (.bl _)⟩⟩
theorem xnotn {j : Nat} {p : Pos} (ha : XX S .b a fa) : XX S .e (.Compare a [.IsNot] [.Constant .none j p] pos) (fUn sNotN fa) :=
  let ⟨_, a1, a2⟩ := ha; ⟨_, pe_cmpR op_notN a1 pe_non (nomark _), fun H0 G0 σ H G ρ Q q w => by
    refine a2 H0 G0 σ H G ρ _ q (Wp.imp w.bind (fun x wx v H1 G1 s1 r1 => ?_) fun _ z => z)
    have e := (Rp.isN r1).2
    rw [e] at wx
    exact ⟨rfl, wx _ H1 G1 s1 (.bl _)⟩⟩
end
end Ct

namespace Ct
open PySem PySem.Spec PyProof.Rows L2

theorem RpL.atI {G : Hp} {vs : List V} {ds : List D} {i : Int} {d : D} (h : RpL G vs ds) (e : L2.atI ds i = some d) : ∃ v, L2.atI vs i = some v ∧ Rp G v d := by
  unfold L2.atI at e ⊢
  rw [← h.length] at e
  cases q : ixN vs.length i with
  | none => rw [q] at e; cases e
  | some j =>
    rw [q] at e
    exact h.get e
theorem nx_ix (x y : D) : NoX (sIx x y) := by
  unfold sIx
  split
  · split <;> first | exact noX_ok _ | exact noX_stuck
  · split <;> first | exact noX_ok _ | exact noX_stuck
  · split <;> first | exact noX_ok _ | exact noX_stuck
  · exact noX_stuck
theorem Rp.scr_inv {G : Hp} {v : V} {ds : List D} (h : Rp G v (.dict [(.bool true, .list ds)])) : ∃ a o xs, v = .ref a ∧ G a = some (.frz o (.lst xs)) ∧ RpL G xs ds := by
  cases h with
  | scr h hl => exact ⟨_, _, _, rfl, h, hl⟩
  | dct _ hk => cases hk
theorem RS.scr_inv {H G : Hp} {v : V} {ds : List D} (h : RS H G v (.dict [(.bool true, .list ds)])) : ∃ a o xs, v = .ref a ∧ G a = some (.frz o (.lst xs)) ∧ RpL G xs ds := by
  exact Rp.scr_inv h
theorem ops_ix {K : PySem.W.Frag} : OpS .s .e .e (fun x y H Q => rIxL K x y H Q ∨ rIxT K x y H Q) sIx := fun H G x y dx dy Q s hx hy w => by
  unfold sIx at w
  split at w
  · cases Rp.int_inv hy
    obtain ⟨p, xs, rfl, h, hl⟩ := hx
    split at w
    · rename_i e
      obtain ⟨v, e1, r⟩ := hl.atI e
      exact .inl ⟨p, xs, _, v, rfl, rfl, .of h, e1, wp_ok w _ H G (Step.refl s) r⟩
    · exact w.elim
  · cases Rp.int_inv hy
    obtain ⟨p, xs, rfl, h, hl⟩ := Rp.tup_inv hx
    split at w
    · rename_i e
      obtain ⟨v, e1, r⟩ := hl.atI e
      exact .inr ⟨p, xs, _, v, rfl, rfl, .of (s _ _ h), e1, wp_ok w _ H G (Step.refl s) r⟩
    · exact w.elim
  · cases Rp.int_inv hy
    obtain ⟨p, o, xs, rfl, h, hl⟩ := RS.scr_inv (H := H) hx
    split at w
    · rename_i e
      obtain ⟨v, e1, r⟩ := hl.atI e
      exact .inl ⟨p, xs, _, v, rfl, rfl, .inl (.inr ⟨o, s _ _ h⟩), e1, wp_ok w _ H G (Step.refl s) r⟩
    · exact w.elim
  · exact w.elim
/-- borrowed all through -/
theorem ops_ixb {K : PySem.W.Frag} : OpS .b .e .b (fun x y H Q => rIxL K x y H Q ∨ rIxT K x y H Q) sIx := fun H G x y dx dy Q s hx hy w => by
  unfold sIx at w
  split at w
  · cases Rp.int_inv hy
    obtain ⟨p, xs, rfl, h, hl⟩ := Rp.lst_inv hx
    split at w
    · rename_i e
      obtain ⟨v, e1, r⟩ := hl.atI e
      exact .inl ⟨p, xs, _, v, rfl, rfl, .of h, e1, wp_ok w _ H G (Step.refl s) r⟩
    · exact w.elim
  · cases Rp.int_inv hy
    obtain ⟨p, xs, rfl, h, hl⟩ := Rp.tup_inv hx
    split at w
    · rename_i e
      obtain ⟨v, e1, r⟩ := hl.atI e
      exact .inr ⟨p, xs, _, v, rfl, rfl, .of h, e1, wp_ok w _ H G (Step.refl s) r⟩
    · exact w.elim
  · cases Rp.int_inv hy
    obtain ⟨p, o, xs, rfl, h, hl⟩ := Rp.scr_inv hx
    split at w
    · rename_i e
      obtain ⟨v, e1, r⟩ := hl.atI e
      exact .inl ⟨p, xs, _, v, rfl, rfl, .inl (.inr ⟨o, h⟩), e1, wp_ok w _ H G (Step.refl s) r⟩
    · exact w.elim
  · exact w.elim

/-! ### arguments -/
def aNil : Rho → Rs (List D) := fun _ => .ok []
def aCons (f : Rho → Rs D) (g : Rho → Rs (List D)) : Rho → Rs (List D) := fun ρ => (f ρ).bind fun d => (g ρ).bind fun ds => .ok (d :: ds)
def isEBa : Kd → Prop
  | .e => True
  | .b => True
  | _ => False
section
variable {S : Sx} {k : Kd} {t : TE} {ts : TA} {f : Rho → Rs D} {g : Rho → Rs (List D)}
theorem ta_nil (hk : isEBa k) : TAr S k tNil aNil := fun H0 G0 σ H G ρ Q q w => w [] H G (Step.refl q.st.sub) (by
  cases k with
  | e => exact .nil
  | b => exact .nil
  | s => exact hk.elim
  | o => exact hk.elim
  | m => exact hk.elim
  | d => exact hk.elim
  | w k => exact hk.elim)
theorem ta_cons (hk : isEBa k) (h1 : TV S k t f) (h2 : TAr S k ts g) : TAr S k (tCons t ts) (aCons f g) := fun H0 G0 σ H G ρ Q q w => by
  refine h1 H0 G0 σ H G ρ _ q (Wp.imp w.bind (fun x wx v H1 G1 s1 r1 => ?_) fun _ z => z)
  refine h2 H0 G0 σ H1 G1 ρ _ (q.step s1) (Wp.imp wx.bind (fun y wy u H2 G2 s2 r2 => ?_) fun e z => z.step s1)
  refine wy _ H2 G2 (s1.trans s2) ?_
  cases k with
  | e => exact .cons (Rp.mono s2.gg r1) r2
  | b => exact .cons (Rp.mono s2.hh r1) r2
  | s => exact hk.elim
  | o => exact hk.elim
  | m => exact hk.elim
  | d => exact hk.elim
  | w k => exact hk.elim
theorem xa_nil (hk : isEBa k) : XA S k [] aNil := ⟨_, pa_nil, ta_nil hk⟩
theorem xa_cons (hk : isEBa k) {e : Expr} {es : List Expr} (h1 : XX S k e f) (h2 : XA S k es g) (hs : starEach (e :: es) S.X.env = (false, eval e S.X.env) :: starEach es S.X.env := by rfl) : XA S k (e :: es) (aCons f g) :=
  let ⟨_, a1, a2⟩ := h1; let ⟨_, b1, b2⟩ := h2; ⟨_, pa_cons a1 b1 hs, ta_cons hk a2 b2⟩
theorem ae_nil : XA S .e [] aNil := xa_nil trivial
theorem ae_cons {e : Expr} {es : List Expr} (h1 : XX S .e e f) (h2 : XA S .e es g) (hs : starEach (e :: es) S.X.env = (false, eval e S.X.env) :: starEach es S.X.env := by rfl) : XA S .e (e :: es) (aCons f g) := xa_cons (k := .e) trivial h1 h2 hs
theorem ab_nil : XA S .b [] aNil := xa_nil trivial
theorem ab_cons {e : Expr} {es : List Expr} (h1 : XX S .b e f) (h2 : XA S .b es g) (hs : starEach (e :: es) S.X.env = (false, eval e S.X.env) :: starEach es S.X.env := by rfl) : XA S .b (e :: es) (aCons f g) := xa_cons (k := .b) trivial h1 h2 hs
end

/-! ### displays -/
def fTup (g : Rho → Rs (List D)) : Rho → Rs D := fun ρ => (g ρ).bind fun ds => if ds.length ≤ sizeLine then .ok (.tuple ds) else .stuck
def fLst (g : Rho → Rs (List D)) : Rho → Rs D := fun ρ => (g ρ).bind fun ds => if ds.length ≤ sizeLine then .ok (.list ds) else .stuck
section
variable {S : Sx} {es : List Expr} {g : Rho → Rs (List D)} {pos : Pos}
theorem xtup {x1 : Nat} (h : XA S .e es g) : XX S .e (.Tuple es x1 pos) (fTup g) :=
  let ⟨_, a1, a2⟩ := h; ⟨_, pe_tup a1, fun H0 G0 σ H G ρ Q q w => by
    refine a2 H0 G0 σ H G ρ _ q (Wp.imp w.bind (fun ds wd vs H1 G1 s1 r1 => ?_) fun _ z => z)
    split at wd
    · rename_i hl
      refine ⟨by rw [RpL.length r1]; exact hl, fun p hp => ?_⟩
      exact wd _ _ _ (s1.trans (Step.new s1.sub hp)) (.tup upd_same (RpL.mono (same_new (Same.free s1.sub hp)) r1))
    · exact wd.elim⟩
theorem xlst (h : XA S .e es g) : XX S .o (.List es pos) (fLst g) :=
  let ⟨_, a1, a2⟩ := h; ⟨_, pe_lst a1, fun H0 G0 σ H G ρ Q q w => by
    refine a2 H0 G0 σ H G ρ _ q (Wp.imp w.bind (fun ds wd vs H1 G1 s1 r1 => ?_) fun _ z => z)
    split at wd
    · rename_i hl
      refine ⟨by rw [RpL.length r1]; exact hl, fun p hp => ?_⟩
      exact wd _ _ _ (s1.trans (Step.newO s1.sub hp)) ⟨p, vs, ds, rfl, rfl, upd_same, Same.free s1.hh hp, Same.free s1.sub hp, r1⟩
    · exact wd.elim⟩
end

/-! ### built-ins by name -/
/-- a built-in's call by values -/
def ClS (ki k : Kd) (r : List V → Hp → VK → Prop) (o : List D → Rs D) : Prop := ∀ H G vs ds (Q : VK), Same G H → RKL ki H G vs ds → Wp (o ds) (fun d => ∀ v H' G', Step H G H' G' → RK k H H' G' v d → Q v H') (fun _ => False) → r vs H Q
def fCl (o : List D → Rs D) (g : Rho → Rs (List D)) : Rho → Rs D := fun ρ => (g ρ).bind o
section
variable {S : Sx} {ki k : Kd} {r : List V → Hp → VK → Prop} {o : List D → Rs D} {t : TA} {g : Rho → Rs (List D)}
theorem RKL.carry {H1 G1 H2 G2 : Hp} {v : List V} {d : List D} (s : Step H1 G1 H2 G2) (h : RKL ki H1 G1 v d) : RKL ki H2 G2 v d := by
  cases ki with
  | e => exact RpL.mono s.gg h
  | s => exact RpL.mono s.hh h
  | b => exact RpL.mono s.hh h
  | o => exact RpL.mono s.hh h
  | m => exact RpL.mono s.hh h
  | d => exact RpL.mono s.hh h
  | w k => exact RpL.mono s.hh h
theorem tv_cb (nx : ∀ x, NoX (o x)) (ho : ClS ki k r o) (h : TAr S ki t g) : TV S k (tCB r t) (fCl o g) := fun H0 G0 σ H G ρ Q q w => by
  refine h H0 G0 σ H G ρ _ q (Wp.imp w.bind (fun x wx v H1 G1 s1 r1 => ?_) fun _ z => z)
  refine ho H1 G1 v x Q s1.sub r1 (Wp.imp (Wp.noX (E' := fun _ => False) (nx x) wx) (fun d qd v' H' G' s3 r3 => qd v' H' G' (s1.trans s3) (RK.anti s1.hh r3)) fun _ z => z)
end
def o1 (o : D → Rs D) : List D → Rs D
  | [x] => o x
  | _ => .stuck
def o2 (o : D → D → Rs D) : List D → Rs D
  | [x, y] => o x y
  | _ => .stuck
theorem nx_o1 {o : D → Rs D} (h : ∀ x, NoX (o x)) (l : List D) : NoX (o1 o l) := by
  unfold o1
  split
  · exact h _
  · exact noX_stuck
theorem nx_o2 {o : D → D → Rs D} (h : ∀ x y, NoX (o x y)) (l : List D) : NoX (o2 o l) := by
  unfold o2
  split
  · exact h _ _
  · exact noX_stuck
theorem cls1 {ki k : Kd} {r : List V → Hp → VK → Prop} {o : D → Rs D} (h : ∀ H G v d (Q : VK), Same G H → Rp H v d → (ki = .e → Rp G v d) → Wp (o d) (fun d => ∀ v H' G', Step H G H' G' → RK k H H' G' v d → Q v H') (fun _ => False) → r [v] H Q) : ClS ki k r (o1 o) := fun H G vs ds Q s hx w => by
  unfold o1 at w
  split at w
  · rename_i x
    have hh : RpL H vs [x] := by
      cases ki with
      | e => exact RpL.mono s hx
      | s => exact hx
      | b => exact hx
      | o => exact hx
      | m => exact hx
      | d => exact hx
      | w k => exact hx
    cases hh with
    | cons r1 r2 =>
      cases r2
      refine h H G _ _ Q s r1 (fun e => ?_) w
      subst e
      cases hx with
      | cons a b => exact a
  · exact w.elim
theorem cls2 {k : Kd} {r : List V → Hp → VK → Prop} {o : D → D → Rs D} (h : ∀ H G v u d e (Q : VK), Same G H → Rp H v d → Rp H u e → Wp (o d e) (fun d => ∀ v H' G', Step H G H' G' → RK k H H' G' v d → Q v H') (fun _ => False) → r [v, u] H Q) : ClS .b k r (o2 o) := fun H G vs ds Q s hx w => by
  unfold o2 at w
  split at w
  · cases hx with
    | cons r1 r2 =>
      cases r2 with
      | cons r2 r3 =>
        cases r3
        exact h H G _ _ _ _ Q s r1 r2 w
  · exact w.elim
theorem Rp.list_len {K : PySem.W.Frag} {H : Hp} {v : V} {d : D} {n : D} (h : Rp H v d) (e : sLen d = .ok n) : ∃ p ys, v = .ref p ∧ (SqL K H p ys ∨ SqT K H p ys) ∧ n = .int (ys.length : Int) := by
  unfold sLen at e
  split at e
  · cases e
    obtain ⟨p, xs, rfl, h, hl⟩ := Rp.lst_inv h
    exact ⟨p, xs, rfl, .inl (.of h), by rw [hl.length]⟩
  · cases e
    obtain ⟨p, xs, rfl, h, hl⟩ := Rp.tup_inv h
    exact ⟨p, xs, rfl, .inr (.of h), by rw [hl.length]⟩
  · cases e
    obtain ⟨p, o, xs, rfl, h, hl⟩ := Rp.scr_inv h
    exact ⟨p, xs, rfl, .inl (.inl (.inr ⟨o, h⟩)), by rw [hl.length]⟩
  · cases e
theorem nx_len (x : D) : NoX (sLen x) := by unfold sLen; split <;> first | exact noX_ok _ | exact noX_stuck
theorem nx_abs (x : D) : NoX (sAbs x) := by unfold sAbs; split <;> first | exact noX_ok _ | exact noX_stuck
theorem nx_int (x : D) : NoX (sInt x) := by unfold sInt; split <;> first | exact noX_ok _ | exact noX_stuck
theorem nx_min2 (x y : D) : NoX (sMin2 x y) := by unfold sMin2; split <;> first | exact noX_ok _ | exact noX_stuck
theorem nx_max2 (x y : D) : NoX (sMax2 x y) := by unfold sMax2; split <;> first | exact noX_ok _ | exact noX_stuck
theorem nx_sum (x : D) : NoX (sSum x) := by
  unfold sSum
  split
  · split <;> first | exact noX_ok _ | exact noX_stuck
  · exact noX_stuck
theorem nx_max (x : D) : NoX (sMax x) := by
  unfold sMax
  split
  · split <;> first | exact noX_ok _ | exact noX_stuck
  · exact noX_stuck
theorem nx_min (x : D) : NoX (sMin x) := by
  unfold sMin
  split
  · split <;> first | exact noX_ok _ | exact noX_stuck
  · exact noX_stuck
theorem nx_list (x : D) : NoX (sList x) := by unfold sList; split <;> first | exact noX_ok _ | exact noX_stuck
section
variable {S : Sx} {e e2 : Expr} {f f2 : Rho → Rs D} {p pos : Pos}
theorem xix (ha : XX S .s e f) (hb : XX S .e e2 f2) (hs : PlainIx e2 := by exact fun _ _ => rfl) : XX S .e (.Subscript e e2 pos) (fBin sIx f f2) :=
  let ⟨_, a1, a2⟩ := ha; let ⟨_, b1, b2⟩ := hb; ⟨_, pe_ix (ix_list.or ix_tup) a1 b1 hs, tv_op (ki := .s) (kj := .e) trivial trivial nx_ix ops_ix a2 b2⟩
theorem xixb (ha : XX S .b e f) (hb : XX S .e e2 f2) (hs : PlainIx e2 := by exact fun _ _ => rfl) : XX S .b (.Subscript e e2 pos) (fBin sIx f f2) :=
  let ⟨_, a1, a2⟩ := ha; let ⟨_, b1, b2⟩ := hb; ⟨_, pe_ix (ix_list.or ix_tup) a1 b1 hs, tv_op (ki := .b) (kj := .e) trivial trivial nx_ix ops_ixb a2 b2⟩

theorem xlen {g : Rho → Rs (List D)} (hm : S.X.mg "len" = none) (h : XA S .b [e] g) (hg : Gl S.X "len" := by rfl) (he : starEach (e :: []) S.X.env = (false, eval e S.X.env) :: starEach [] S.X.env := by rfl) (hpl : (backTo pos (starEach [] S.X.env)).any (·.1) = false := by rfl) :
    XX S .e (.Call (.Name "len" p) [e] [] pos) (fCl (o1 sLen) g) :=
  let ⟨_, a1, a2⟩ := h
  ⟨_, pe_callB call_len_seq hg hm (by decide +kernel) a1 (he := he) (hpl := hpl), tv_cb (ki := .b) (nx_o1 nx_len) (cls1 fun H G v d Q s r _ w => by
    cases e : sLen d with
    | ok n =>
      obtain ⟨p, ys, rfl, a, rfl⟩ := r.list_len e
      rw [e] at w
      exact ⟨p, ys, rfl, a, wp_ok w _ H G (Step.refl s) (.int _)⟩
    | exc z => exact absurd e (nx_len d z)
    | stuck => rw [e] at w; exact w.elim) a2⟩
theorem xabs {g : Rho → Rs (List D)} (hm : S.X.mg "abs" = none) (h : XA S .b [e] g) (hg : Gl S.X "abs" := by rfl) (he : starEach (e :: []) S.X.env = (false, eval e S.X.env) :: starEach [] S.X.env := by rfl) (hpl : (backTo pos (starEach [] S.X.env)).any (·.1) = false := by rfl) :
    XX S .e (.Call (.Name "abs" p) [e] [] pos) (fCl (o1 sAbs) g) :=
  let ⟨_, a1, a2⟩ := h
  ⟨_, pe_callB call_abs hg hm (by decide +kernel) a1 (he := he) (hpl := hpl), tv_cb (ki := .b) (nx_o1 nx_abs) (cls1 fun H G v d Q s r _ w => by
    unfold sAbs at w
    split at w
    · cases Rp.int_inv r
      exact ⟨_, rfl, wp_ok w _ H G (Step.refl s) (.int _)⟩
    · exact w.elim) a2⟩
theorem xint {g : Rho → Rs (List D)} (hm : S.X.mg "int" = none) (h : XA S .b [e] g) (hg : Gl S.X "int" := by rfl) (he : starEach (e :: []) S.X.env = (false, eval e S.X.env) :: starEach [] S.X.env := by rfl) (hpl : (backTo pos (starEach [] S.X.env)).any (·.1) = false := by rfl) :
    XX S .e (.Call (.Name "int" p) [e] [] pos) (fCl (o1 sInt) g) :=
  let ⟨_, a1, a2⟩ := h
  ⟨_, pe_callTy call_int1 hg hm (by decide +kernel) a1 (he := he) (hpl := hpl), tv_cb (ki := .b) (nx_o1 nx_int) (cls1 fun H G v d Q s r _ w => by
    unfold sInt at w
    split at w
    · cases Rp.int_inv r
      exact .inl ⟨_, rfl, wp_ok w _ H G (Step.refl s) (.int _)⟩
    · cases Rp.bl_inv r
      exact .inr ⟨_, rfl, wp_ok w _ H G (Step.refl s) (.int _)⟩
    · exact w.elim) a2⟩
theorem xmin2 {g : Rho → Rs (List D)} (hc : S.X.calm = true) (hm : S.X.mg "min" = none) (h : XA S .b [e, e2] g) (hg : Gl S.X "min" := by rfl) (he : starEach (e :: [e2]) S.X.env = (false, eval e S.X.env) :: starEach [e2] S.X.env := by rfl) (hpl : (backTo pos (starEach [e2] S.X.env)).any (·.1) = false := by rfl) :
    XX S .e (.Call (.Name "min" p) [e, e2] [] pos) (fCl (o2 sMin2) g) :=
  let ⟨_, a1, a2⟩ := h
  ⟨_, pe_callB (call_min2 hc) hg hm (by decide +kernel) a1 (he := he) (hpl := hpl), tv_cb (ki := .b) (nx_o2 nx_min2) (cls2 fun H G v u d e Q s r r' w => by
    unfold sMin2 at w
    split at w
    · cases Rp.int_inv r
      cases Rp.int_inv r'
      exact ⟨_, _, rfl, wp_ok w _ H G (Step.refl s) (.int _)⟩
    · exact w.elim) a2⟩
theorem xmax2 {g : Rho → Rs (List D)} (hc : S.X.calm = true) (hm : S.X.mg "max" = none) (h : XA S .b [e, e2] g) (hg : Gl S.X "max" := by rfl) (he : starEach (e :: [e2]) S.X.env = (false, eval e S.X.env) :: starEach [e2] S.X.env := by rfl) (hpl : (backTo pos (starEach [e2] S.X.env)).any (·.1) = false := by rfl) :
    XX S .e (.Call (.Name "max" p) [e, e2] [] pos) (fCl (o2 sMax2) g) :=
  let ⟨_, a1, a2⟩ := h
  ⟨_, pe_callB (call_max2 hc) hg hm (by decide +kernel) a1 (he := he) (hpl := hpl), tv_cb (ki := .b) (nx_o2 nx_max2) (cls2 fun H G v u d e Q s r r' w => by
    unfold sMax2 at w
    split at w
    · cases Rp.int_inv r
      cases Rp.int_inv r'
      exact ⟨_, _, rfl, wp_ok w _ H G (Step.refl s) (.int _)⟩
    · exact w.elim) a2⟩
theorem xsum {g : Rho → Rs (List D)} (hc : S.X.calm = true) (hm : S.X.mg "sum" = none) (h : XA S .b [e] g) (hg : Gl S.X "sum" := by rfl) (he : starEach (e :: []) S.X.env = (false, eval e S.X.env) :: starEach [] S.X.env := by rfl) (hpl : (backTo pos (starEach [] S.X.env)).any (·.1) = false := by rfl) :
    XX S .e (.Call (.Name "sum" p) [e] [] pos) (fCl (o1 sSum) g) :=
  let ⟨_, a1, a2⟩ := h
  ⟨_, pe_callB (cr_sum hc) hg hm (by decide +kernel) a1 (he := he) (hpl := hpl), tv_cb (ki := .b) (nx_o1 nx_sum) (cls1 fun H G v d Q s r _ w => by
    unfold sSum at w
    split at w
    · split at w
      · rename_i ds ns he
        cases intsD_eq he
        obtain ⟨p, xs, rfl, h, hl⟩ := Rp.lst_inv r
        cases hl.ints
        exact ⟨p, ns, rfl, .of h, wp_ok w _ H G (Step.refl s) (.int _)⟩
      · exact w.elim
    · exact w.elim) a2⟩
theorem lmax_eq {ns : List Int} {m : Int} (h : m ∈ ns) (h2 : ∀ y ∈ ns, y ≤ m) : lmax ns = m := by
  have a := lmax_le h
  have b := h2 _ (lmax_mem (by intro z; rw [z] at h; cases h))
  omega
theorem lmin_eq {ns : List Int} {m : Int} (h : m ∈ ns) (h2 : ∀ y ∈ ns, m ≤ y) : lmin ns = m := by
  have a := lmin_le h
  have b := h2 _ (lmin_mem (by intro z; rw [z] at h; cases h))
  omega
theorem xmax {g : Rho → Rs (List D)} (hc : S.X.calm = true) (hm : S.X.mg "max" = none) (h : XA S .b [e] g) (hg : Gl S.X "max" := by rfl) (he : starEach (e :: []) S.X.env = (false, eval e S.X.env) :: starEach [] S.X.env := by rfl) (hpl : (backTo pos (starEach [] S.X.env)).any (·.1) = false := by rfl) :
    XX S .e (.Call (.Name "max" p) [e] [] pos) (fCl (o1 sMax) g) :=
  let ⟨_, a1, a2⟩ := h
  ⟨_, pe_callB (cr_max hc) hg hm (by decide +kernel) a1 (he := he) (hpl := hpl), tv_cb (ki := .b) (nx_o1 nx_max) (cls1 fun H G v d Q s r _ w => by
    unfold sMax at w
    split at w
    · split at w
      · rename_i ds n ns he
        cases intsD_eq he
        obtain ⟨p, xs, rfl, h, hl⟩ := Rp.lst_inv r
        cases hl.ints
        refine ⟨p, n :: ns, rfl, .of h, Nat.succ_pos _, fun m h1 h2 => ?_⟩
        rw [← lmax_eq h1 h2]
        exact wp_ok w _ H G (Step.refl s) (.int _)
      · exact w.elim
    · exact w.elim) a2⟩
theorem xmin {g : Rho → Rs (List D)} (hc : S.X.calm = true) (hm : S.X.mg "min" = none) (h : XA S .b [e] g) (hg : Gl S.X "min" := by rfl) (he : starEach (e :: []) S.X.env = (false, eval e S.X.env) :: starEach [] S.X.env := by rfl) (hpl : (backTo pos (starEach [] S.X.env)).any (·.1) = false := by rfl) :
    XX S .e (.Call (.Name "min" p) [e] [] pos) (fCl (o1 sMin) g) :=
  let ⟨_, a1, a2⟩ := h
  ⟨_, pe_callB (cr_min hc) hg hm (by decide +kernel) a1 (he := he) (hpl := hpl), tv_cb (ki := .b) (nx_o1 nx_min) (cls1 fun H G v d Q s r _ w => by
    unfold sMin at w
    split at w
    · split at w
      · rename_i ds n ns he
        cases intsD_eq he
        obtain ⟨p, xs, rfl, h, hl⟩ := Rp.lst_inv r
        cases hl.ints
        refine ⟨p, n :: ns, rfl, .of h, Nat.succ_pos _, fun m h1 h2 => ?_⟩
        rw [← lmin_eq h1 h2]
        exact wp_ok w _ H G (Step.refl s) (.int _)
      · exact w.elim
    · exact w.elim) a2⟩
/-- list(x): what it holds stands for good -/
theorem xlist (hm : S.X.mg "list" = none) (h : XX S .s e f) (hg : Gl S.X "list" := by rfl) (he : starEach (e :: []) S.X.env = (false, eval e S.X.env) :: starEach [] S.X.env := by rfl) (hpl : (backTo pos (starEach [] S.X.env)).any (·.1) = false := by rfl) :
    XX S .o (.Call (.Name "list" p) [e] [] pos) (fUn sList f) :=
  let ⟨_, a1, a2⟩ := h
  ⟨_, pe_callTy call_list_of hg hm (by decide +kernel) (pa_cons a1 pa_nil he) (he := he) (hpl := hpl), fun H0 G0 σ H G ρ Q q w => by
    refine a2 H0 G0 σ H G ρ _ q (Wp.imp w.bind (fun d wd v H1 G1 s1 r1 => ?_) fun _ z => z)
    unfold sList at wd
    split at wd
    · obtain ⟨p, xs, rfl, h, hl⟩ := r1
      refine ⟨p, xs, rfl, .inl (.of h), fun n hn => ?_⟩
      exact wp_ok wd _ _ G1 (s1.trans (Step.newO s1.sub hn)) ⟨n, xs, _, rfl, rfl, upd_same, Same.free s1.hh hn, Same.free s1.sub hn, hl⟩
    · obtain ⟨p, xs, rfl, h, hl⟩ := Rp.tup_inv r1
      refine ⟨p, xs, rfl, .inr (.of (s1.sub _ _ h)), fun n hn => ?_⟩
      exact wp_ok wd _ _ G1 (s1.trans (Step.newO s1.sub hn)) ⟨n, xs, _, rfl, rfl, upd_same, Same.free s1.hh hn, Same.free s1.sub hn, hl⟩
    · exact wd.elim⟩
/-- sorted(xs) of ints -/
theorem xsorted {g : Rho → Rs (List D)} (hm : S.X.mg "sorted" = none) (h : XA S .b [e] g) (hg : Gl S.X "sorted" := by rfl) (he : starEach (e :: []) S.X.env = (false, eval e S.X.env) :: starEach [] S.X.env := by rfl) (hpl : (backTo pos (starEach [] S.X.env)).any (·.1) = false := by rfl) :
    XX S .o (.Call (.Name "sorted" p) [e] [] pos) (fCl (o1 sSorted) g) :=
  let ⟨_, a1, a2⟩ := h
  ⟨_, pe_callB cr_sortedI hg hm (by decide +kernel) a1 (he := he) (hpl := hpl), tv_cb (ki := .b) (nx_o1 nx_sorted) (cls1 fun H G v d Q s r _ w => by
    unfold sSorted at w
    split at w
    · split at w
      · rename_i ds ns he
        cases intsD_eq he
        obtain ⟨p, xs, rfl, h, hl⟩ := Rp.lst_inv r
        cases hl.ints
        refine ⟨p, ns, rfl, .of h, fun ns' q hp hw hn => ?_⟩
        rw [sortI_eq hp hw]
        exact wp_ok w _ _ G (Step.newO s hn) ⟨q, _, _, rfl, rfl, upd_same, hn, Same.free s hn, RpL.of_ints _⟩
      · exact w.elim
    · exact w.elim) a2⟩
end
end Ct

namespace Ct
open PySem PySem.Spec PyProof.Rows L2

/-! ### tests -/
def toB (f : Rho → Rs D) : Rho → Rs Bool := fun ρ => (f ρ).bind fun d => match d with
  | .bool b => .ok b
  | _ => .stuck
/-- a value's truth -/
def toT (f : Rho → Rs D) : Rho → Rs Bool := fun ρ => (f ρ).bind fun d => match d with
  | .none => .ok false
  | .bool b => .ok b
  | .int i => .ok (i != 0)
  | .list ds => .ok (!ds.isEmpty)
  | .tuple ds => .ok (!ds.isEmpty)
  | _ => .stuck
def fNot (f : Rho → Rs Bool) : Rho → Rs Bool := fun ρ => (f ρ).bind fun b => .ok (!b)
def fAnd (f g : Rho → Rs Bool) : Rho → Rs Bool := fun ρ => (f ρ).bind fun b => if b = true then g ρ else .ok false
def fOr (f g : Rho → Rs Bool) : Rho → Rs Bool := fun ρ => (f ρ).bind fun b => if b = true then .ok true else g ρ
def fAndV (f g : Rho → Rs D) : Rho → Rs D := fun ρ => (toB f ρ).bind fun b => if b = true then g ρ else .ok (.bool false)
def fOrV (f g : Rho → Rs D) : Rho → Rs D := fun ρ => (toB f ρ).bind fun b => if b = true then .ok (.bool true) else g ρ
def fNotV (f : Rho → Rs D) : Rho → Rs D := fun ρ => (toB f ρ).bind fun b => .ok (.bool (!b))
def fIfE (c : Rho → Rs Bool) (f g : Rho → Rs D) : Rho → Rs D := fun ρ => (c ρ).bind fun b => if b = true then f ρ else g ρ
section
variable {S : Sx} {e a b : Expr} {rest : List Expr} {f g : Rho → Rs D} {c c' : Rho → Rs Bool} {pos : Pos} {t : TE} {tt tu : TT}
theorem tb_of {k : Kd} (h : TV S .b t f) : TB S (fun σ H Q => t σ H fun x H' => ∃ k, x = .bl k ∧ Q k H') (toB f) := fun H0 G0 σ H G ρ Q q w => by
  refine h H0 G0 σ H G ρ _ q (Wp.imp w.bind (fun d wd v H1 G1 s1 r1 => ?_) fun _ z => z)
  cases d with
  | bool k =>
    cases Rp.bl_inv r1
    exact ⟨k, rfl, wp_ok wd _ _ s1⟩
  | _ => exact wd.elim
/-- a comparison as a test -/
theorem xt_cmp {op : CmpOp} (h : XX S .b (.Compare a [op] [b] pos) f) (hs : ∃ r ta tb, OpR S.X (compareOp op) r ∧ PE S.X a ta ∧ PE S.X b tb ∧ behindInMarks op b = false ∧ TV S .b (tOp r ta tb) f) : XT S (.Compare a [op] [b] pos) (toB f) := by
  obtain ⟨r, ta, tb, h1, h2, h3, h4, h5⟩ := hs
  exact ⟨_, pt_cmpR h1 h2 h3 h4, tb_of (k := .b) h5⟩
theorem tlt {fa fb : Rho → Rs D} (ha : XX S .e a fa) (hb : XX S .e b fb) : XT S (.Compare a [.Lt] [b] pos) (toB (fBin sLt fa fb)) :=
  let ⟨_, a1, a2⟩ := ha; let ⟨_, b1, b2⟩ := hb; ⟨_, pt_cmpR op_lt a1 b1 (nomark _), tb_of (k := .b) (TV.e_b (tv_op (ki := .e) (kj := .e) trivial trivial (two_ints t_lt (fun _ _ => rfl)) (ops_int (gv := fun i j => .bl (decide (i < j))) (fun i j H Q q => ⟨i, j, rfl, rfl, q⟩) (fun _ _ _ => .bl _) (fun _ _ => rfl) t_lt) a2 b2))⟩
theorem tle {fa fb : Rho → Rs D} (ha : XX S .e a fa) (hb : XX S .e b fb) : XT S (.Compare a [.LtE] [b] pos) (toB (fBin sLe fa fb)) :=
  let ⟨_, a1, a2⟩ := ha; let ⟨_, b1, b2⟩ := hb; ⟨_, pt_cmpR op_le a1 b1 (nomark _), tb_of (k := .b) (TV.e_b (tv_op (ki := .e) (kj := .e) trivial trivial (two_ints t_le (fun _ _ => rfl)) (ops_int (gv := fun i j => .bl (decide (i ≤ j))) (fun i j H Q q => ⟨i, j, rfl, rfl, q⟩) (fun _ _ _ => .bl _) (fun _ _ => rfl) t_le) a2 b2))⟩
theorem tgt {fa fb : Rho → Rs D} (ha : XX S .e a fa) (hb : XX S .e b fb) : XT S (.Compare a [.Gt] [b] pos) (toB (fBin sGt fa fb)) :=
  let ⟨_, a1, a2⟩ := ha; let ⟨_, b1, b2⟩ := hb; ⟨_, pt_cmpR op_gt a1 b1 (nomark _), tb_of (k := .b) (TV.e_b (tv_op (ki := .e) (kj := .e) trivial trivial (two_ints t_gt (fun _ _ => rfl)) (ops_int (gv := fun i j => .bl (decide (j < i))) (fun i j H Q q => ⟨i, j, rfl, rfl, q⟩) (fun _ _ _ => .bl _) (fun _ _ => rfl) t_gt) a2 b2))⟩
theorem tge {fa fb : Rho → Rs D} (ha : XX S .e a fa) (hb : XX S .e b fb) : XT S (.Compare a [.GtE] [b] pos) (toB (fBin sGe fa fb)) :=
  let ⟨_, a1, a2⟩ := ha; let ⟨_, b1, b2⟩ := hb; ⟨_, pt_cmpR op_ge a1 b1 (nomark _), tb_of (k := .b) (TV.e_b (tv_op (ki := .e) (kj := .e) trivial trivial (two_ints t_ge (fun _ _ => rfl)) (ops_int (gv := fun i j => .bl (decide (j ≤ i))) (fun i j H Q q => ⟨i, j, rfl, rfl, q⟩) (fun _ _ _ => .bl _) (fun _ _ => rfl) t_ge) a2 b2))⟩
theorem teq {fa fb : Rho → Rs D} (hu : S.X.A.units + 64 < cLine) (ha : XX S .b a fa) (hb : XX S .b b fb) : XT S (.Compare a [.Eq] [b] pos) (toB (fBin sEq fa fb)) :=
  let ⟨_, a1, a2⟩ := ha; let ⟨_, b1, b2⟩ := hb; ⟨_, pt_cmpR (opor op_eq (op_eqD hu)) a1 b1 (nomark _), tb_of (k := .b) (TV.e_b (tv_op (ki := .b) (kj := .b) trivial trivial nx_eq (ops_eq trivial trivial) a2 b2))⟩
theorem tne {fa fb : Rho → Rs D} (hu : S.X.A.units + 64 < cLine) (ha : XX S .b a fa) (hb : XX S .b b fb) : XT S (.Compare a [.NotEq] [b] pos) (toB (fBin sNe fa fb)) :=
  let ⟨_, a1, a2⟩ := ha; let ⟨_, b1, b2⟩ := hb; ⟨_, pt_cmpR (opor op_ne (op_neD hu)) a1 b1 (nomark _), tb_of (k := .b) (TV.e_b (tv_op (ki := .b) (kj := .b) trivial trivial nx_ne (ops_ne trivial trivial) a2 b2))⟩
theorem tisn {j : Nat} {p : Pos} {fa : Rho → Rs D} (ha : XX S .b a fa) : XT S (.Compare a [.Is] [.Constant .none j p] pos) (toB (fUn sIsN fa)) :=
  let ⟨_, a1, a2⟩ := ha; ⟨_, pt_cmpR op_isN a1 pe_non (nomark _), tb_of (k := .b) (TV.e_b (t := tOp _ _ _) fun H0 G0 σ H G ρ Q q w => by
    refine a2 H0 G0 σ H G ρ _ q (Wp.imp w.bind (fun x wx v H1 G1 s1 r1 => ?_) fun _ z => z)
    have e := (Rp.isN r1).1
    rw [e] at wx
    exact ⟨rfl, wx _ H1 G1 s1 (.bl _)⟩)⟩
theorem tnotn {j : Nat} {p : Pos} {fa : Rho → Rs D} (ha : XX S .b a fa) : XT S (.Compare a [.IsNot] [.Constant .none j p] pos) (toB (fUn sNotN fa)) :=
  let ⟨_, a1, a2⟩ := ha; ⟨_, pt_cmpR op_notN a1 pe_non (nomark _), tb_of (k := .b) (TV.e_b (t := tOp _ _ _) fun H0 G0 σ H G ρ Q q w => by
    refine a2 H0 G0 σ H G ρ _ q (Wp.imp w.bind (fun x wx v H1 G1 s1 r1 => ?_) fun _ z => z)
    have e := (Rp.isN r1).2
    rw [e] at wx
    exact ⟨rfl, wx _ H1 G1 s1 (.bl _)⟩)⟩
/-- an expression that gives True or False -/
theorem tval (h : XX S .b e f) (he : ∀ whole, isTrue e S.X.env whole = (do let v ← whole; standAt e.pos; holding [v] (truthy v)) := by intro _; rfl) : XT S e (toB f) :=
  let ⟨_, a1, a2⟩ := h; ⟨_, pt_val a1 he, tb_of (k := .b) a2⟩
/-- any value, by its truth -/
theorem ttru (h : XX S .b e f) (he : ∀ whole, isTrue e S.X.env whole = (do let v ← whole; standAt e.pos; holding [v] (truthy v)) := by intro _; rfl) : XT S e (toT f) :=
  let ⟨_, a1, a2⟩ := h; ⟨_, pt_truth a1 he, fun H0 G0 σ H G ρ Q q w => by
    refine a2 H0 G0 σ H G ρ _ q (Wp.imp w.bind (fun d wd v H1 G1 s1 r1 => ?_) fun _ z => z)
    cases d with
    | none => cases Rp.non_inv r1; exact ⟨_, rfl, wp_ok wd _ _ s1⟩
    | bool k => cases Rp.bl_inv r1; exact ⟨_, rfl, wp_ok wd _ _ s1⟩
    | int i => cases Rp.int_inv r1; exact ⟨_, rfl, wp_ok wd _ _ s1⟩
    | list ds =>
      obtain ⟨p, xs, rfl, h, hl⟩ := Rp.lst_inv r1
      refine ⟨_, .inl ⟨xs, .of h, rfl⟩, ?_⟩
      have : xs.isEmpty = ds.isEmpty := by cases hl <;> rfl
      rw [this]
      exact wp_ok wd _ _ s1
    | tuple ds =>
      obtain ⟨p, xs, rfl, h, hl⟩ := Rp.tup_inv r1
      refine ⟨_, .inr (.inl ⟨xs, .of h, rfl⟩), ?_⟩
      have : xs.isEmpty = ds.isEmpty := by cases hl <;> rfl
      rw [this]
      exact wp_ok wd _ _ s1
    | str x => exact wd.elim
    | dict es => exact wd.elim⟩
theorem tnot (h : XT S a c) : XT S (.UnaryOp .Not a pos) (fNot c) :=
  let ⟨_, a1, a2⟩ := h; ⟨_, pt_not a1, fun H0 G0 σ H G ρ Q q w => by
    exact a2 H0 G0 σ H G ρ _ q (Wp.imp w.bind (fun d wd H1 G1 s1 => wp_ok wd _ _ s1) fun _ z => z)⟩
/-- and, or -/
def XW (S : Sx) (e : Expr) (f : Rho → Rs Bool) : Prop := ∃ t, PW S.X e t ∧ TB S t f
theorem XW.pt (h : XW S e c) : XT S e c := let ⟨_, a1, a2⟩ := h; ⟨_, a1.pt, a2⟩
theorem wand1 (h : XT S a c) : XW S (.BoolOp .And [a] pos) c := let ⟨_, a1, a2⟩ := h; ⟨_, pw_and1 a1, a2⟩
theorem wor1 (h : XT S a c) : XW S (.BoolOp .Or [a] pos) c := let ⟨_, a1, a2⟩ := h; ⟨_, pw_or1 a1, a2⟩
theorem tb_and (h1 : TB S tt c) (h2 : TB S tu c') : TB S (tAnd tt tu) (fAnd c c') := fun H0 G0 σ H G ρ Q q w => by
  refine h1 H0 G0 σ H G ρ _ q (Wp.imp w.bind (fun d wd H1 G1 s1 => ?_) fun _ z => z)
  cases d with
  | true => exact iteT (h2 H0 G0 σ H1 G1 ρ Q (q.step s1) (Wp.imp wd (fun d q H' G' s => q H' G' (s1.trans s)) fun e z => z.step s1))
  | false => exact iteF (wp_ok wd _ _ s1)
theorem tb_or (h1 : TB S tt c) (h2 : TB S tu c') : TB S (tOr tt tu) (fOr c c') := fun H0 G0 σ H G ρ Q q w => by
  refine h1 H0 G0 σ H G ρ _ q (Wp.imp w.bind (fun d wd H1 G1 s1 => ?_) fun _ z => z)
  cases d with
  | true => exact iteT (wp_ok wd _ _ s1)
  | false => exact iteF (h2 H0 G0 σ H1 G1 ρ Q (q.step s1) (Wp.imp wd (fun d q H' G' s => q H' G' (s1.trans s)) fun e z => z.step s1))
theorem wand (h1 : XT S a c) (h2 : XW S (.BoolOp .And (b :: rest) pos) c') : XW S (.BoolOp .And (a :: b :: rest) pos) (fAnd c c') :=
  let ⟨_, a1, a2⟩ := h1; let ⟨_, b1, b2⟩ := h2; ⟨_, pw_and a1 b1, tb_and a2 b2⟩
theorem wor (h1 : XT S a c) (h2 : XW S (.BoolOp .Or (b :: rest) pos) c') : XW S (.BoolOp .Or (a :: b :: rest) pos) (fOr c c') :=
  let ⟨_, a1, a2⟩ := h1; let ⟨_, b1, b2⟩ := h2; ⟨_, pw_or a1 b1, tb_or a2 b2⟩
/-- .. as values -/
theorem xone {op : BoolOp} {k : Kd} (h : XX S k a f) : XX S k (.BoolOp op [a] pos) f := let ⟨_, a1, a2⟩ := h; ⟨_, pe_one a1, a2⟩
theorem xand (h1 : XX S .e a f) (h2 : XX S .e (.BoolOp .And (b :: rest) pos) g) : XX S .e (.BoolOp .And (a :: b :: rest) pos) (fAndV f g) :=
  let ⟨_, a1, a2⟩ := h1; let ⟨_, b1, b2⟩ := h2; ⟨_, pe_and a1 b1, fun H0 G0 σ H G ρ Q q w => by
    refine a2 H0 G0 σ H G ρ _ q (Wp.imp w.bind.bind (fun d wd v H1 G1 s1 r1 => ?_) fun _ z => z)
    cases d with
    | bool k =>
      cases Rp.bl_inv r1
      refine ⟨k, rfl, ?_⟩
      have wd := wp_ok wd
      cases k with
      | true => exact iteT (b2 H0 G0 σ H1 G1 ρ Q (q.step s1) (Wp.imp wd (fun d q v H' G' s r => q v H' G' (s1.trans s) r) fun e z => z.step s1))
      | false => exact iteF (wp_ok wd _ _ _ s1 (.bl _))
    | _ => exact wd.elim⟩
theorem xor (h1 : XX S .e a f) (h2 : XX S .e (.BoolOp .Or (b :: rest) pos) g) : XX S .e (.BoolOp .Or (a :: b :: rest) pos) (fOrV f g) :=
  let ⟨_, a1, a2⟩ := h1; let ⟨_, b1, b2⟩ := h2; ⟨_, pe_or a1 b1, fun H0 G0 σ H G ρ Q q w => by
    refine a2 H0 G0 σ H G ρ _ q (Wp.imp w.bind.bind (fun d wd v H1 G1 s1 r1 => ?_) fun _ z => z)
    cases d with
    | bool k =>
      cases Rp.bl_inv r1
      refine ⟨k, rfl, ?_⟩
      have wd := wp_ok wd
      cases k with
      | true => exact iteT (wp_ok wd _ _ _ s1 (.bl _))
      | false => exact iteF (b2 H0 G0 σ H1 G1 ρ Q (q.step s1) (Wp.imp wd (fun d q v H' G' s r => q v H' G' (s1.trans s) r) fun e z => z.step s1))
    | _ => exact wd.elim⟩
theorem xnot (h1 : XX S .e a f) : XX S .e (.UnaryOp .Not a pos) (fNotV f) :=
  let ⟨_, a1, a2⟩ := h1; ⟨_, pe_not a1, fun H0 G0 σ H G ρ Q q w => by
    refine a2 H0 G0 σ H G ρ _ q (Wp.imp w.bind.bind (fun d wd v H1 G1 s1 r1 => ?_) fun _ z => z)
    cases d with
    | bool k =>
      cases Rp.bl_inv r1
      exact ⟨k, rfl, wp_ok (E := ExW S σ H G) wd _ _ _ s1 (.bl _)⟩
    | _ => exact wd.elim⟩
theorem xife {k : Kd} {x : Expr} (hc : XT S x c) (h1 : XX S k a f) (h2 : XX S k b g) : XX S k (.IfExp x a b pos) (fIfE c f g) :=
  let ⟨_, c1, c2⟩ := hc; let ⟨_, a1, a2⟩ := h1; let ⟨_, b1, b2⟩ := h2; ⟨_, pe_ifExp c1 a1 b1, fun H0 G0 σ H G ρ Q q w => by
    refine c2 H0 G0 σ H G ρ _ q (Wp.imp w.bind (fun d wd H1 G1 s1 => ?_) fun _ z => z)
    cases d with
    | true => exact iteT (a2 H0 G0 σ H1 G1 ρ Q (q.step s1) (Wp.imp wd (fun d q v H' G' s r => q v H' G' (s1.trans s) (r.anti s1.hh)) fun e z => z.step s1))
    | false => exact iteF (b2 H0 G0 σ H1 G1 ρ Q (q.step s1) (Wp.imp wd (fun d q v H' G' s r => q v H' G' (s1.trans s) (r.anti s1.hh)) fun e z => z.step s1))⟩
end

/-! ### in, not in -/
theorem flat_rp {G : Hp} {v : V} {d : D} (h : Rp G v d) (f : flatD d = true) : flatV v = true := by
  cases h with
  | non => rfl
  | bl b => rfl
  | int i => rfl
  | _ => cases f
theorem eqv_rp {G : Hp} {v u : V} {d e : D} (h : Rp G v d) (h' : Rp G u e) (f : flatD d = true) (f' : flatD e = true) : eqV v u = PyData.eqv d e := by
  cases h with
  | non => cases h' with
    | non => rfl
    | bl b => rfl
    | int i => rfl
    | _ => cases f'
  | bl b => cases h' with
    | non => rfl
    | bl b => rfl
    | int i => rfl
    | _ => cases f'
  | int i => cases h' with
    | non => rfl
    | bl b => rfl
    | int i => rfl
    | _ => cases f'
  | _ => cases f
theorem in_rp {G : Hp} {v : V} {d : D} (h : Rp G v d) (f : flatD d = true) : ∀ {xs : List V} {ds : List D}, RpL G xs ds → ds.all flatD = true → xs.all flatV = true ∧ inV v xs = inD d ds
  | _, _, .nil, _ => ⟨rfl, rfl⟩
  | x :: xs, e :: es, .cons h1 h2, q => by
    rw [List.all_cons, Bool.and_eq_true] at q
    obtain ⟨a, b⟩ := in_rp h f h2 q.2
    refine ⟨by rw [List.all_cons, flat_rp h1 q.1, a]; rfl, ?_⟩
    show (eqV x v || inV v xs) = (PyData.eqv e d || inD d es)
    rw [b, eqv_rp h1 h q.1 f]
theorem nx_in (x y : D) : NoX (sIn x y) := by unfold sIn; split <;> first | exact noX_if (noX_ok _) noX_stuck | exact noX_stuck
theorem nx_notIn (x y : D) : NoX (sNotIn x y) := by unfold sNotIn; split <;> first | exact noX_if (noX_ok _) noX_stuck | exact noX_stuck
theorem ops_in {K : PySem.W.Frag} : OpS .b .b .e (rIn K false) sIn := fun H G x y dx dy Q s hx hy w => by
  unfold sIn at w
  split at w
  · split at w
    · rename_i h
      obtain ⟨p, xs, rfl, e, hl⟩ := Rp.lst_inv hy
      obtain ⟨q1, q2⟩ := in_rp hx h.1 hl h.2
      exact ⟨p, xs, rfl, .inl (.of e), flat_rp hx h.1, q1, by rw [if_neg Bool.false_ne_true, q2]; exact wp_ok w _ H G (Step.refl s) (.bl _)⟩
    · exact w.elim
  · split at w
    · rename_i h
      obtain ⟨p, xs, rfl, e, hl⟩ := Rp.tup_inv hy
      obtain ⟨q1, q2⟩ := in_rp hx h.1 hl h.2
      exact ⟨p, xs, rfl, .inr (.of e), flat_rp hx h.1, q1, by rw [if_neg Bool.false_ne_true, q2]; exact wp_ok w _ H G (Step.refl s) (.bl _)⟩
    · exact w.elim
  · exact w.elim
theorem ops_notIn {K : PySem.W.Frag} : OpS .b .b .e (rIn K true) sNotIn := fun H G x y dx dy Q s hx hy w => by
  unfold sNotIn at w
  split at w
  · split at w
    · rename_i h
      obtain ⟨p, xs, rfl, e, hl⟩ := Rp.lst_inv hy
      obtain ⟨q1, q2⟩ := in_rp hx h.1 hl h.2
      exact ⟨p, xs, rfl, .inl (.of e), flat_rp hx h.1, q1, by rw [if_pos rfl, q2]; exact wp_ok w _ H G (Step.refl s) (.bl _)⟩
    · exact w.elim
  · split at w
    · rename_i h
      obtain ⟨p, xs, rfl, e, hl⟩ := Rp.tup_inv hy
      obtain ⟨q1, q2⟩ := in_rp hx h.1 hl h.2
      exact ⟨p, xs, rfl, .inr (.of e), flat_rp hx h.1, q1, by rw [if_pos rfl, q2]; exact wp_ok w _ H G (Step.refl s) (.bl _)⟩
    · exact w.elim
  · exact w.elim
section
variable {S : Sx} {a b : Expr} {fa fb : Rho → Rs D} {pos : Pos}
theorem xin (ha : XX S .b a fa) (hb : XX S .b b fb) (hm : behindInMarks .In b = false := by rfl) : XX S .e (.Compare a [.In] [b] pos) (fBin sIn fa fb) :=
  let ⟨_, a1, a2⟩ := ha; let ⟨_, b1, b2⟩ := hb; ⟨_, pe_cmpR op_in_seq a1 b1 hm, tv_op (ki := .b) (kj := .b) trivial trivial nx_in ops_in a2 b2⟩
theorem xnin (ha : XX S .b a fa) (hb : XX S .b b fb) (hm : behindInMarks .NotIn b = false := by rfl) : XX S .e (.Compare a [.NotIn] [b] pos) (fBin sNotIn fa fb) :=
  let ⟨_, a1, a2⟩ := ha; let ⟨_, b1, b2⟩ := hb; ⟨_, pe_cmpR op_notIn_seq a1 b1 hm, tv_op (ki := .b) (kj := .b) trivial trivial nx_notIn ops_notIn a2 b2⟩
theorem tin (ha : XX S .b a fa) (hb : XX S .b b fb) (hm : behindInMarks .In b = false := by rfl) : XT S (.Compare a [.In] [b] pos) (toB (fBin sIn fa fb)) :=
  let ⟨_, a1, a2⟩ := ha; let ⟨_, b1, b2⟩ := hb; ⟨_, pt_cmpR op_in_seq a1 b1 hm, tb_of (k := .b) (TV.e_b (tv_op (ki := .b) (kj := .b) trivial trivial nx_in ops_in a2 b2))⟩
theorem tnin (ha : XX S .b a fa) (hb : XX S .b b fb) (hm : behindInMarks .NotIn b = false := by rfl) : XT S (.Compare a [.NotIn] [b] pos) (toB (fBin sNotIn fa fb)) :=
  let ⟨_, a1, a2⟩ := ha; let ⟨_, b1, b2⟩ := hb; ⟨_, pt_cmpR op_notIn_seq a1 b1 hm, tb_of (k := .b) (TV.e_b (tv_op (ki := .b) (kj := .b) trivial trivial nx_notIn ops_notIn a2 b2))⟩
end

/-! ### slices of lists -/
def fPart (f : Option (Rho → Rs D)) : Rho → Rs (Option Int) := match f with
  | none => fun _ => .ok none
  | some f => fun ρ => (f ρ).bind fun d => match d with
    | .int i => .ok (some i)
    | _ => .stuck
def fSlice (f : Rho → Rs D) (lo hi : Rho → Rs (Option Int)) : Rho → Rs D := fun ρ => (f ρ).bind fun d => (lo ρ).bind fun l => (hi ρ).bind fun h => match d with
  | .list ds => .ok (.list (cutD ds l h))
  | _ => .stuck
def XO (S : Sx) (e : Option Expr) (f : Rho → Rs (Option Int)) : Prop := ∃ t, PO S.X e t ∧ ∀ H0 G0 σ H G ρ (Q : Option Int → Hp → Prop), Ok S H0 G0 σ H G ρ → Wp (f ρ) (fun d => ∀ H' G', Step H G H' G' → Q d H') (ExW S σ H G) → t σ H Q
theorem RpL.cut {G : Hp} {vs : List V} {ds : List D} (h : RpL G vs ds) (lo hi : Option Int) : RpL G (cutV vs lo hi) (cutD ds lo hi) := by
  unfold cutV cutD
  rw [h.length]
  exact (h.drop _).take _
section
variable {S : Sx} {e a : Expr} {f g : Rho → Rs D} {lo hi : Option Expr} {fl fh : Rho → Rs (Option Int)} {pos p2 : Pos}
theorem xo_none : XO S none (fPart none) := ⟨_, po_none, fun H0 G0 σ H G ρ Q q w => wp_ok w _ G (Step.refl q.st.sub)⟩
theorem xo_some (h : XX S .e a g) : XO S (some a) (fPart (some g)) :=
  let ⟨_, a1, a2⟩ := h; ⟨_, po_some a1, fun H0 G0 σ H G ρ Q q w => by
    refine a2 H0 G0 σ H G ρ _ q (Wp.imp w.bind (fun d wd v H1 G1 s1 r1 => ?_) fun _ z => z)
    cases d with
    | int i => cases Rp.int_inv r1; exact ⟨i, rfl, wp_ok wd _ _ s1⟩
    | _ => exact wd.elim⟩
theorem xslice (h : XX S .s e f) (hl : XO S lo fl) (hh : XO S hi fh) : XX S .o (.Subscript e (.Slice lo hi none p2) pos) (fSlice f fl fh) :=
  let ⟨_, a1, a2⟩ := h; let ⟨_, b1, b2⟩ := hl; let ⟨_, c1, c2⟩ := hh; ⟨_, pe_slice sl_list a1 b1 c1, fun H0 G0 σ H G ρ Q q w => by
    refine a2 H0 G0 σ H G ρ _ q (Wp.imp w.bind (fun d wd v H1 G1 s1 r1 => ?_) fun _ z => z)
    refine b2 H0 G0 σ H1 G1 ρ _ (q.step s1) (Wp.imp wd.bind (fun l wl H2 G2 s2 => ?_) fun e z => z.step s1)
    refine c2 H0 G0 σ H2 G2 ρ _ (q.step (s1.trans s2)) (Wp.imp wl.bind (fun u wu H3 G3 s3 => ?_) fun e z => z.step (s1.trans s2))
    cases d with
    | list ds =>
      have r1 : RS H1 G1 v (.list ds) := r1
      obtain ⟨p, xs, rfl, hp, hl⟩ : ∃ p vs, v = .ref p ∧ H3 p = some (.lst vs) ∧ RpL G3 vs ds := RS.step (s2.trans s3) r1
      have st := s1.trans (s2.trans s3)
      exact ⟨p, xs, rfl, .of hp, fun n hn => wp_ok wu _ _ G3 (st.trans (Step.newO st.sub hn)) ⟨n, _, _, rfl, rfl, upd_same, Same.free st.hh hn, Same.free st.sub hn, hl.cut l u⟩⟩
    | _ => exact wu.elim⟩
end
end Ct

namespace Ct
open PySem PySem.Spec PyProof.Rows L2

/-! ### statements -/
inductive Out where
  | nx (ρ : Rho)
  | ret (d : D)
  | brk (ρ : Rho)
  | ct (ρ : Rho)
  | exc (e : Er) (ρ : Rho)
  | stuck
def OutP (S : Sx) (kd : Kd) (H0 G0 : Hp) (N : Ends) : Out → Prop
  | .nx ρ => ∀ σ H G, Ok S H0 G0 σ H G ρ → N.nx σ H
  | .brk ρ => ∀ σ H G, Ok S H0 G0 σ H G ρ → N.bk σ H
  | .ct ρ => ∀ σ H G, Ok S H0 G0 σ H G ρ → N.ct σ H
  | .ret d => ∀ v H G, Step H0 G0 H G → RK kd H0 H G v d → N.rt v H
  | .exc e ρ => ∀ c dd σ H G, Ok S H0 G0 σ H G ρ → ErR S.ca S.cf G e c dd → S.W c dd σ H
  | .stuck => False
def TSt (S : Sx) (kd : Kd) (t : TS) (g : Rho → Out) : Prop := ∀ H0 G0 σ H G ρ (N : Ends), Ok S H0 G0 σ H G ρ → OutP S kd H0 G0 N (g ρ) → t N σ H
def XS (S : Sx) (kd : Kd) (st : Stmt) (g : Rho → Out) : Prop := ∃ t, PS S.X st t ∧ TSt S kd t g
def XSs (S : Sx) (kd : Kd) (st : List Stmt) (g : Rho → Out) : Prop := ∃ t, PSs S.X st t ∧ TSt S kd t g
/-- from an expression's outcome -/
def Rs.out {α : Type} (r : Rs α) (ρ : Rho) (k : α → Out) : Out := match r with
  | .ok a => k a
  | .exc e => .exc e ρ
  | .stuck => .stuck
theorem out_ok {α : Type} (a : α) (ρ : Rho) (k : α → Out) : (Rs.ok a).out ρ k = k a := rfl
theorem out_exc {α : Type} (e : Er) (ρ : Rho) (k : α → Out) : (Rs.exc e : Rs α).out ρ k = .exc e ρ := rfl
theorem out_stuck {α : Type} (ρ : Rho) (k : α → Out) : (Rs.stuck : Rs α).out ρ k = .stuck := rfl
theorem wp_out {S : Sx} {kd : Kd} {H0 G0 H G : Hp} {σ : St} {ρ : Rho} {N : Ends} {α : Type} {r : Rs α} {k : α → Out} (q : Ok S H0 G0 σ H G ρ) (h : OutP S kd H0 G0 N (r.out ρ k)) : Wp r (fun a => OutP S kd H0 G0 N (k a)) (ExW S σ H G) := by
  cases r with
  | ok a => exact h
  | exc e => exact fun c dd H' G' s er => h c dd σ H' G' (q.step s) er
  | stuck => exact h

def fSkip : Rho → Out := fun ρ => .nx ρ
def fSeq (g h : Rho → Out) : Rho → Out := fun ρ => match g ρ with
  | .nx ρ' => h ρ'
  | o => o
def fAsg (i : Nat) (f : Rho → Rs D) : Rho → Out := fun ρ => (f ρ).out ρ fun d => .nx (ρ.set i (.va d))
def fAsgO (i : Nat) (f : Rho → Rs D) : Rho → Out := fun ρ => (f ρ).out ρ fun d => match d with
  | .list ds => .nx (ρ.set i (.ow ds))
  | _ => .stuck
def fAsgM (i : Nat) (f : Rho → Rs D) : Rho → Out := fun ρ => (f ρ).out ρ fun d => match d with
  | .dict es => .nx (ρ.set i (.od es))
  | _ => .stuck
def fRet (f : Rho → Rs D) : Rho → Out := fun ρ => (f ρ).out ρ fun d => .ret d
def fRetV (i : Nat) : Rho → Out := fun ρ => match ρ[i]? with
  | some (.ow ds) => .ret (.list ds)
  | _ => .stuck
def fIf (c : Rho → Rs Bool) (g h : Rho → Out) : Rho → Out := fun ρ => (c ρ).out ρ fun b => if b = true then g ρ else h ρ
def fDrop (f : Rho → Rs D) : Rho → Out := fun ρ => (f ρ).out ρ fun _ => .nx ρ
def fAug (i : Nat) (o : D → D → Rs D) (f : Rho → Rs D) : Rho → Out := fun ρ => (fBin o (fV i) f ρ).out ρ fun d => .nx (ρ.set i (.va d))
/-- an own object stands for good from here on -/
def fz (i : Nat) (ρ : Rho) : Rho := match ρ[i]? with
  | some (.ow ds) => ρ.set i (.va (.list ds))
  | some (.ot k d) => if k.full = true then ρ.set i (.va d) else ρ
  | _ => ρ
def fFz (i : Nat) (g : Rho → Out) : Rho → Out := fun ρ => g (fz i ρ)
def fUnset (i : Nat) (g : Rho → Out) : Rho → Out := fun ρ => g (ρ.set i .un)


/-- a method of a list of one's own -/
def fMut (i : Nat) (f : Rho → Rs (List D)) (o : List D → List D → Rs (List D)) : Rho → Out := fun ρ => match ρ[i]? with
  | some (.ow ds) => (f ρ).out ρ fun as => (o ds as).out ρ fun es => .nx (ρ.set i (.ow es))
  | _ => .stuck
def mAppend (ds as : List D) : Rs (List D) := match as with
  | [d] => if ds.length < sizeLine then .ok (ds ++ [d]) else .stuck
  | _ => .stuck
def mExtend (ds as : List D) : Rs (List D) := match as with
  | [.list es] => if ds.length + es.length ≤ sizeLine then .ok (ds ++ es) else .stuck
  | _ => .stuck
def mReverse (ds as : List D) : Rs (List D) := match as with
  | [] => .ok ds.reverse
  | _ => .stuck
def mClear (ds as : List D) : Rs (List D) := match as with
  | [] => .ok []
  | _ => .stuck
def mPop (ds as : List D) : Rs (List D) := match as with
  | [] => if ds.length = 0 then .stuck else .ok ds.dropLast
  | _ => .stuck
/-- xs[k] = v: as = [v, k] -/
def mSet (ds as : List D) : Rs (List D) := match as with
  | [v, .int k] => match ixN ds.length k with
    | some j => .ok (ds.set j v)
    | none => .stuck
  | _ => .stuck

section
variable {S : Sx} {kd : Kd} {st : Stmt} {sts : List Stmt} {g h : Rho → Out} {e : Expr} {f : Rho → Rs D} {te : TE} {i : Nat} {pos : Pos}
theorem xss_nil : XSs S kd [] fSkip := ⟨_, pss_nil, fun H0 G0 σ H G ρ N q w => w σ H G q⟩
theorem ts_seq {t u : TS} (h1 : TSt S kd t g) (h2 : TSt S kd u h) : TSt S kd (tSeq t u) (fSeq g h) := fun H0 G0 σ H G ρ N q w => by
  refine h1 H0 G0 σ H G ρ _ q ?_
  unfold fSeq at w
  cases e : g ρ with
  | nx ρ' =>
    rw [e] at w
    exact fun σ' H' G' q' => h2 H0 G0 σ' H' G' ρ' N q' w
  | ret d => rw [e] at w; exact w
  | brk d => rw [e] at w; exact w
  | ct d => rw [e] at w; exact w
  | exc d r => rw [e] at w; exact w
  | stuck => rw [e] at w; exact w
theorem xss_cons (h1 : XS S kd st g) (h2 : XSs S kd sts h) : XSs S kd (st :: sts) (fSeq g h) :=
  let ⟨_, a1, a2⟩ := h1; let ⟨_, b1, b2⟩ := h2; ⟨_, pss_cons a1 b1, ts_seq a2 b2⟩
theorem xss_one (h1 : XS S kd st g) : XSs S kd [st] g := let ⟨_, a1, a2⟩ := h1; ⟨_, pss_one a1, a2⟩
/-- code that is never come to -/
theorem xss_never : XSs S kd sts (fun _ => .stuck) := ⟨_, pss_never, fun _ _ _ _ _ _ _ _ w => w⟩
theorem xs_never : XS S kd st (fun _ => .stuck) := ⟨_, ps_never, fun _ _ _ _ _ _ _ _ w => w⟩
theorem ts_set (h : TV S .e te f) : TSt S kd (tAsg te (gName i)) (fAsg i f) := fun H0 G0 σ H G ρ N q w =>
  h H0 G0 σ H G ρ _ q (Wp.imp (wp_out q w) (fun d wd v H1 G1 s1 r1 => wd _ H1 G1 ((q.step s1).setV r1)) fun _ z => z)
theorem xs_set (hp : ∀ te, PE S.X e te → PS S.X st (tAsg te (gName i))) (h : XX S .e e f) : XS S kd st (fAsg i f) :=
  let ⟨_, a1, a2⟩ := h; ⟨_, hp _ a1, ts_set a2⟩
theorem xs_setT (hp : PS S.X st (tAsg te (gName i))) (h : TV S .e te f) : XS S kd st (fAsg i f) := ⟨_, hp, ts_set h⟩
theorem ts_setO (h : TV S .o te f) : TSt S kd (tAsg te (gName i)) (fAsgO i f) := fun H0 G0 σ H G ρ N q w =>
  h H0 G0 σ H G ρ _ q (Wp.imp (wp_out q w) (fun d wd v H1 G1 s1 r1 => by
    obtain ⟨p, vs, ds, rfl, rfl, h1, h2, h3, h4⟩ := r1
    exact wd _ H1 G1 (q.setO s1 (fun _ _ z => nomatch z) ⟨p, vs, rfl, h1, h3, Same.free q.st.hh h2, h4⟩ h2)) fun _ z => z)
theorem xs_setO (hp : ∀ te, PE S.X e te → PS S.X st (tAsg te (gName i))) (h : XX S .o e f) : XS S kd st (fAsgO i f) :=
  let ⟨_, a1, a2⟩ := h; ⟨_, hp _ a1, ts_setO a2⟩
theorem xs_setOT (hp : PS S.X st (tAsg te (gName i))) (h : TV S .o te f) : XS S kd st (fAsgO i f) := ⟨_, hp, ts_setO h⟩
theorem ts_setM (h : TV S .m te f) : TSt S kd (tAsg te (gName i)) (fAsgM i f) := fun H0 G0 σ H G ρ N q w =>
  h H0 G0 σ H G ρ _ q (Wp.imp (wp_out q w) (fun d wd v H1 G1 s1 r1 => by
    obtain ⟨p, vs, ds, rfl, rfl, h1, h2, h3, h4⟩ := r1
    exact wd _ H1 G1 (q.setO s1 (fun _ _ z => nomatch z) ⟨p, vs, rfl, h1, h3, Same.free q.st.hh h2, h4⟩ h2)) fun _ z => z)
theorem xs_setM (hp : ∀ te, PE S.X e te → PS S.X st (tAsg te (gName i))) (h : XX S .m e f) : XS S kd st (fAsgM i f) :=
  let ⟨_, a1, a2⟩ := h; ⟨_, hp _ a1, ts_setM a2⟩
theorem RK.from0 {k : Kd} {H0 G0 H G H' G' : Hp} {v : V} {d : D} (s : Step H0 G0 H G) (h : RK k H H' G' v d) : RK k H0 H' G' v d := h.anti s.hh
theorem xs_ret (h : XX S kd e f) : XS S kd (.Return (some e) pos) (fRet f) :=
  let ⟨_, a1, a2⟩ := h; ⟨_, ps_ret a1, fun H0 G0 σ H G ρ N q w =>
    a2 H0 G0 σ H G ρ _ q (Wp.imp (wp_out q w) (fun d wd v H1 G1 s1 r1 => wd v H1 G1 (q.st.trans s1) (r1.anti q.st.hh)) fun _ z => z)⟩
theorem xs_retN : XS S .e (.Return none pos) (fRet (fC .none)) :=
  ⟨_, ps_retN, fun H0 G0 σ H G ρ N q w => w _ H G q.st .non⟩
theorem xs_retV {x : Str} {p : Pos} (hv : PE S.X (.Name x p) (tVar i)) : XS S .o (.Return (some (.Name x p)) pos) (fRetV i) :=
  ⟨_, ps_ret hv, fun H0 G0 σ H G ρ N q w => by
    unfold fRetV at w
    split at w
    · rename_i ds e
      obtain ⟨ov, e1, p, vs, rfl, h1, h2, h3, h4⟩ := q.sl i _ e
      exact ⟨_, e1, w _ H G q.st ⟨p, vs, ds, rfl, rfl, h1, h3, h2, h4⟩⟩
    · exact w.elim⟩
theorem xs_if {c : Expr} {a b : List Stmt} {fc : Rho → Rs Bool} (hc : XT S c fc) (ha : XSs S kd a g) (hb : XSs S kd b h) : XS S kd (.If c a b pos) (fIf fc g h) :=
  let ⟨_, c1, c2⟩ := hc; let ⟨_, a1, a2⟩ := ha; let ⟨_, b1, b2⟩ := hb; ⟨_, ps_if c1 a1 b1, fun H0 G0 σ H G ρ N q w => by
    refine c2 H0 G0 σ H G ρ _ q (Wp.imp (wp_out q w) (fun d wd H1 G1 s1 => ?_) fun _ z => z)
    cases d with
    | true => exact iteT (a2 H0 G0 σ H1 G1 ρ N (q.step s1) wd)
    | false => exact iteF (b2 H0 G0 σ H1 G1 ρ N (q.step s1) wd)⟩
theorem xs_drop (hp : ∀ te, PE S.X e te → PS S.X st (tDrop te)) (h : XX S .b e f) : XS S kd st (fDrop f) :=
  let ⟨_, a1, a2⟩ := h; ⟨_, hp _ a1, fun H0 G0 σ H G ρ N q w =>
    a2 H0 G0 σ H G ρ _ q (Wp.imp (wp_out q w) (fun d wd v H1 G1 s1 r1 => wd _ H1 G1 (q.step s1)) fun _ z => z)⟩
theorem xs_pass : XS S kd (.Pass pos) fSkip := ⟨_, ps_pass, fun H0 G0 σ H G ρ N q w => w σ H G q⟩
theorem xs_break : XS S kd (.Break pos) (fun ρ => .brk ρ) := ⟨_, ps_break, fun H0 G0 σ H G ρ N q w => w σ H G q⟩
theorem xs_continue : XS S kd (.Continue pos) (fun ρ => .ct ρ) := ⟨_, ps_continue, fun H0 G0 σ H G ρ N q w => w σ H G q⟩
/-- name += e (ints) -/
theorem xs_aug {o : D → D → Rs D} {ti : TIp} (hp : ∀ te, PE S.X e te → PS S.X st (tAug i te ti)) (ho : OpS .e .e .e ti o) (nx : ∀ x y, NoX (o x y)) (h : XX S .e e f) : XS S kd st (fAug i o f) :=
  let ⟨_, a1, a2⟩ := h; ⟨_, hp _ a1, fun H0 G0 σ H G ρ N q w => by
    have w1 := wp_out q w
    have w2 := Wp.bind w1
    unfold fV at w2
    cases e : ρ[i]? with
    | none => rw [e] at w2; exact w2.elim
    | some s =>
      obtain ⟨ov, e1, e2⟩ := q.sl i s e
      cases s with
      | va d =>
        rw [e] at w2
        obtain ⟨v, rfl, r⟩ := e2
        refine ⟨v, e1, ?_⟩
        refine a2 H0 G0 σ H G ρ _ q (Wp.imp (Wp.bind (wp_ok (E := ExW S σ H G) w2)) (fun y wy u H1 G1 s1 r1 => ?_) fun _ z => z)
        refine ho H1 G1 v u d y _ s1.sub (Rp.mono s1.gg r) r1 (Wp.imp (Wp.noX (E' := fun _ => False) (nx d y) wy) (fun z qz v' H' G' s3 r3 => ?_) fun _ z => z)
        exact qz _ H' G' ((q.step (s1.trans s3)).setV r3)
      | _ => rw [e] at w2; exact w2.elim⟩
theorem ops_addI : OpS .e .e .e (ipI fun i j => i + j) sAddI := fun H G x y dx dy Q s hx hy w => by
  unfold sAddI at w
  split at w
  · cases Rp.int_inv hx
    cases Rp.int_inv hy
    exact ⟨_, _, rfl, rfl, w _ H G (Step.refl s) (.int _)⟩
  · exact w.elim
theorem ops_subI : OpS .e .e .e (ipI fun i j => i - j) sSub := fun H G x y dx dy Q s hx hy w => by
  unfold sSub at w
  split at w
  · cases Rp.int_inv hx
    cases Rp.int_inv hy
    exact ⟨_, _, rfl, rfl, w _ H G (Step.refl s) (.int _)⟩
  · exact w.elim
theorem nx_addI (x y : D) : NoX (sAddI x y) := by unfold sAddI; split <;> first | exact noX_ok _ | exact noX_stuck
theorem xs_augAdd (hp : ∀ te, PE S.X e te → PS S.X st (tAug i te (ipI fun i j => i + j))) (h : XX S .e e f) : XS S kd st (fAug i sAddI f) := xs_aug hp ops_addI nx_addI h
theorem xs_augSub (hp : ∀ te, PE S.X e te → PS S.X st (tAug i te (ipI fun i j => i - j))) (h : XX S .e e f) : XS S kd st (fAug i sSub f) := xs_aug hp ops_subI nx_sub h

/-- what a slot owns is given to all -/
theorem Ok.frz {H0 G0 H G G' : Hp} {σ : St} {ρ : Rho} (q : Ok S H0 G0 σ H G ρ) {i : Nat} {s : Sl} {v : V} {d : D} (es : ρ[i]? = some s) (t : Step H0 G0 H G') (gg : Same G G') (out : ∀ p, ¬ FP H G σ[i]? p s → G' p = G p)
    (ev : σ[i]? = some (some v)) (r : Rp G' v d) : Ok S H0 G0 σ H G' (ρ.set i (.va d)) := by
  have nofi : ∀ (j : Nat) (b : Sl) (p : Addr), i ≠ j → ρ[j]? = some b → FP H G σ[j]? p b → G' p = none := fun j b p ne e f => by
    rw [out p (fun z => q.sep i j s b p ne es e z f)]
    exact (q.fpIn e f).2.1
  have keep : ∀ (j : Nat), i ≠ j → ∀ v sh d f, ρ[j]? = some (.ot sh d) → σ[j]? = some (some v) → RT H G sh v d f → RT H G' sh v d f := fun j ne v sh d f e ev r =>
    r.mono gg fun p hp => ⟨nofi j _ p ne e ⟨v, f, ev, r, hp⟩, rfl⟩
  refine ⟨t, by rw [List.length_set]; exact q.len, fun j x e => ?_, fun a b x y p ne ea eb fa fb => ?_⟩
  · rcases set_get e with ⟨rfl, rfl⟩ | ⟨ne, e⟩
    · exact ⟨_, ev, _, rfl, r⟩
    · obtain ⟨ov, f1, f2⟩ := q.sl j x e
      refine ⟨ov, f1, ?_⟩
      cases x with
      | un => exact trivial
      | va d =>
        obtain ⟨v, a, b⟩ := f2
        exact ⟨v, a, b.mono gg⟩
      | ow ds =>
        obtain ⟨p', vs, rfl, b, c, d, f⟩ := f2
        exact ⟨p', vs, rfl, b, nofi j _ p' ne e f1, d, f.mono gg⟩
      | od ds =>
        obtain ⟨p', vs, rfl, b, c, d, f⟩ := f2
        exact ⟨p', vs, rfl, b, nofi j _ p' ne e f1, d, f.mono gg⟩
      | ex er =>
        obtain ⟨a, cls, dd, x1, x2, x3⟩ := f2
        exact ⟨a, cls, dd, x1, x2, x3.mono gg⟩
      | ot sh d =>
        obtain ⟨v, fp, rfl, b, c, f⟩ := f2
        exact ⟨v, fp, rfl, keep j ne v sh d fp e f1 b, c, f⟩
  · have old : ∀ (c : Nat) (z : Sl), (ρ.set i (.va d))[c]? = some z → FP H G' σ[c]? p z → i ≠ c ∧ ρ[c]? = some z ∧ FP H G σ[c]? p z := fun c z e f => by
      rcases set_get e with ⟨rfl, rfl⟩ | ⟨ne, e⟩
      · exact f.elim
      · obtain ⟨ov, f1, f2⟩ := q.sl c z e
        refine ⟨ne, e, ?_⟩
        rw [f1] at f ⊢
        exact f.back f2 fun v' sh' d' f' ev' r' eq => by
          subst eq
          cases ev'
          exact keep c ne _ _ _ _ e f1 r'
    obtain ⟨_, e1, g1⟩ := old a x ea fa
    obtain ⟨_, e2, g2⟩ := old b y eb fb
    exact q.sep a b x y p ne e1 e2 g1 g2
theorem Ok.fz {H0 G0 H G : Hp} {σ : St} {ρ : Rho} (q : Ok S H0 G0 σ H G ρ) (i : Nat) : ∃ G', Same G G' ∧ Ok S H0 G0 σ H G' (fz i ρ) := by
  unfold Ct.fz
  split
  · rename_i ds e
    obtain ⟨ov, e1, p, vs, rfl, h1, h2, h3, h4⟩ := q.sl i _ e
    refine ⟨_, same_new h2, q.frz e (q.st.give h3 h1 h2) (same_new h2) (fun p' n => ?_) e1 (.lst upd_same (h4.mono (same_new h2)))⟩
    rw [upd_ne]
    intro z
    subst z
    exact n e1
  · rename_i sh d e
    split
    · rename_i fu
      obtain ⟨ov, e1, v, fp, rfl, h1, h2, h3⟩ := q.sl i _ e
      obtain ⟨G', t, gg, r, out⟩ := h1.give q.st fu h2 h3
      exact ⟨G', gg, q.frz e t gg (fun p n => out p fun z => n ⟨v, fp, e1, h1, z⟩) e1 r⟩
    · exact ⟨G, Same.refl G, q⟩
  · exact ⟨G, Same.refl G, q⟩
theorem ts_fz {t : TS} (i : Nat) (h : TSt S kd t g) : TSt S kd t (fFz i g) := fun H0 G0 σ H G ρ N q w => by
  obtain ⟨G', _, q'⟩ := q.fz i
  exact h H0 G0 σ H G' _ N q' w
theorem xs_fz (i : Nat) (h : XS S kd st g) : XS S kd st (fFz i g) := let ⟨_, a1, a2⟩ := h; ⟨_, a1, ts_fz i a2⟩
theorem xss_fz (i : Nat) (h : XSs S kd sts g) : XSs S kd sts (fFz i g) := let ⟨_, a1, a2⟩ := h; ⟨_, a1, ts_fz i a2⟩

/-! ### methods of a list of one's own -/
/-- what an operation on an own list's values asks -/
def MuS (o : List D → List D → Rs (List D)) (r : V → List V → Hp → VK → Prop) : Prop := ∀ H G p vs ds us as (Q : VK), H p = some (.lst vs) → G p = none → Same G H → RpL G vs ds → RpL G us as → Wp (o ds as) (fun es => ∀ ws, RpL G ws es → ∀ v, Q v (upd H p (.lst ws))) (fun _ => False) → r (.ref p) us H Q
theorem ts_mut {r : V → List V → Hp → VK → Prop} {o : List D → List D → Rs (List D)} {fa : Rho → Rs (List D)} {ta : TA} (nx : ∀ x y, NoX (o x y)) (hr : MuS o r)
    (ha : TAr S .e ta fa) : TSt S kd (tDrop (tBM S.X.K "list" r (tVar i) ta)) (fMut i fa o) := fun H0 G0 σ H G ρ N q w => by
  unfold fMut at w
  split at w
  · rename_i ds e
    obtain ⟨ov, e1, p, vs, rfl, h1, h2, h3, h4⟩ := q.sl i _ e
    refine ⟨_, e1, .inl ⟨rfl, _, .of h1⟩, ?_⟩
    refine ha H0 G0 σ H G ρ _ q (Wp.imp (wp_out q w) (fun as wa us H1 G1 s1 r1 => ?_) fun _ z => z)
    have q1 := q.step s1
    refine hr H1 G1 p vs ds us as _ (s1.hh _ _ h1) (s1.sep p h2 (by rw [h1]; exact Option.some_ne_none _)) s1.sub (h4.mono s1.gg) r1 (Wp.imp (Wp.noX (E' := fun _ => False) (nx ds as) (wp_out q1 wa)) (fun es we ws hw v => ?_) fun _ z => z)
    have g1 := s1.sep p h2 (by rw [h1]; exact Option.some_ne_none _)
    exact we _ _ G1 (q1.write e rfl (fun _ _ z => nomatch z) (fun _ _ z => nomatch z) e1 ⟨p, ws, rfl, upd_same, g1, h3, hw⟩)
  · exact w.elim
theorem nx_append (x y : List D) : NoX (mAppend x y) := by unfold mAppend; split <;> first | exact noX_if (noX_ok _) noX_stuck | exact noX_stuck
theorem nx_reverse (x y : List D) : NoX (mReverse x y) := by unfold mReverse; split <;> first | exact noX_ok _ | exact noX_stuck
theorem nx_clear (x y : List D) : NoX (mClear x y) := by unfold mClear; split <;> first | exact noX_ok _ | exact noX_stuck
theorem nx_extend (x y : List D) : NoX (mExtend x y) := by unfold mExtend; split <;> first | exact noX_if (noX_ok _) noX_stuck | exact noX_stuck
theorem nx_pop (x y : List D) : NoX (mPop x y) := by unfold mPop; split <;> first | exact noX_if noX_stuck (noX_ok _) | exact noX_stuck
theorem mu_append : MuS mAppend rAppend := fun H G p vs ds us as Q h g s hv hu w => by
  unfold mAppend at w
  split at w
  · split at w
    · rename_i hl
      cases hu with
      | cons r1 r2 =>
        cases r2
        exact ⟨p, vs, _, rfl, rfl, h, by rw [hv.length]; exact hl, wp_ok w _ (hv.append (.cons r1 .nil)) _⟩
    · exact w.elim
  · exact w.elim
theorem mu_extend : MuS mExtend rExtend := fun H G p vs ds us as Q h g s hv hu w => by
  unfold mExtend at w
  split at w
  · split at w
    · rename_i hl
      cases hu with
      | cons r1 r2 =>
        cases r2
        obtain ⟨b, xs, rfl, hb, hx⟩ := Rp.lst_inv r1
        exact ⟨p, b, vs, xs, rfl, rfl, h, s _ _ hb, by rw [hv.length, hx.length]; exact hl, wp_ok w _ (hv.append hx) _⟩
    · exact w.elim
  · exact w.elim
theorem RpL.dropLast {G : Hp} {vs : List V} {ds : List D} (h : RpL G vs ds) : RpL G vs.dropLast ds.dropLast := by
  rw [List.dropLast_eq_take, List.dropLast_eq_take, h.length]
  exact h.take _
theorem xs_append {fa : Rho → Rs (List D)} {es : List Expr} (hp : ∀ ta, PA S.X es ta → PS S.X st (tDrop (tBM S.X.K "list" rAppend (tVar i) ta))) (h : XA S .e es fa) : XS S kd st (fMut i fa mAppend) :=
  let ⟨_, a1, a2⟩ := h; ⟨_, hp _ a1, ts_mut nx_append mu_append a2⟩
theorem xs_extend {fa : Rho → Rs (List D)} {es : List Expr} (hp : ∀ ta, PA S.X es ta → PS S.X st (tDrop (tBM S.X.K "list" rExtend (tVar i) ta))) (h : XA S .e es fa) : XS S kd st (fMut i fa mExtend) :=
  let ⟨_, a1, a2⟩ := h; ⟨_, hp _ a1, ts_mut nx_extend mu_extend a2⟩
/-- without arguments -/
theorem ts_mut0 {r : V → List V → Hp → VK → Prop} {o : List D → List D → Rs (List D)} (nx : ∀ x y, NoX (o x y)) (hr : MuS o r) : TSt S kd (tDrop (tBM0 S.X.K "list" r (tVar i))) (fMut i aNil o) := fun H0 G0 σ H G ρ N q w => by
  unfold fMut at w
  split at w
  · rename_i ds e
    obtain ⟨ov, e1, p, vs, rfl, h1, h2, h3, h4⟩ := q.sl i _ e
    refine ⟨_, e1, .inl ⟨rfl, _, .of h1⟩, ?_⟩
    refine hr H G p vs ds [] [] _ h1 h2 q.st.sub h4 .nil (Wp.imp (Wp.noX (E' := fun _ => False) (nx ds []) (wp_out q w)) (fun es we ws hw v => ?_) fun _ z => z)
    exact we _ _ G (q.write e rfl (fun _ _ z => nomatch z) (fun _ _ z => nomatch z) e1 ⟨p, ws, rfl, upd_same, h2, h3, hw⟩)
  · exact w.elim
theorem mu_reverse : MuS mReverse rReverse := fun H G p vs ds us as Q h g s hv hu w => by
  unfold mReverse at w
  split at w
  · cases hu
    exact ⟨p, vs, rfl, rfl, h, wp_ok w _ hv.reverse _⟩
  · exact w.elim
theorem mu_clear : MuS mClear rClear := fun H G p vs ds us as Q h g s hv hu w => by
  unfold mClear at w
  split at w
  · cases hu
    exact ⟨p, vs, rfl, rfl, h, wp_ok w _ .nil _⟩
  · exact w.elim
theorem mu_pop : MuS mPop rPop := fun H G p vs ds us as Q h g s hv hu w => by
  unfold mPop at w
  split at w
  · cases hu
    split at w
    · exact w.elim
    · rename_i hl
      cases e : vs[vs.length - 1]? with
      | none =>
        rw [List.getElem?_eq_none_iff, hv.length] at e
        omega
      | some y => exact ⟨p, vs, y, rfl, rfl, h, e, wp_ok w _ hv.dropLast _⟩
  · exact w.elim
theorem xs_reverse (hp : PS S.X st (tDrop (tBM0 S.X.K "list" rReverse (tVar i)))) : XS S kd st (fMut i aNil mReverse) := ⟨_, hp, ts_mut0 nx_reverse mu_reverse⟩
theorem xs_clear (hp : PS S.X st (tDrop (tBM0 S.X.K "list" rClear (tVar i)))) : XS S kd st (fMut i aNil mClear) := ⟨_, hp, ts_mut0 nx_clear mu_clear⟩
theorem xs_pop (hp : PS S.X st (tDrop (tBM0 S.X.K "list" rPop (tVar i)))) : XS S kd st (fMut i aNil mPop) := ⟨_, hp, ts_mut0 nx_pop mu_pop⟩
/-- xs[k] = v -/
def fSet (i : Nat) (fv fk : Rho → Rs D) : Rho → Out := fun ρ => (fv ρ).out ρ fun v => match ρ[i]? with
  | some (.ow ds) => (fk ρ).out ρ fun k => match k with
    | .int n => match ixN ds.length n with
      | some j => .nx (ρ.set i (.ow (ds.set j v)))
      | none => .stuck
    | _ => .stuck
  | _ => .stuck
theorem xs_setItem {ek : Expr} {fk : Rho → Rs D} (hp : ∀ te ti, PE S.X e te → PE S.X ek ti → PS S.X st (tAsg te (gSub (tVar i) ti rSetL))) (hv : XX S .e e f) (hk : XX S .e ek fk) : XS S kd st (fSet i f fk) :=
  let ⟨_, a1, a2⟩ := hv; let ⟨_, b1, b2⟩ := hk; ⟨_, hp _ _ a1 b1, fun H0 G0 σ H G ρ N q w => by
    refine a2 H0 G0 σ H G ρ _ q (Wp.imp (wp_out q w) (fun d wd v H1 G1 s1 r1 => ?_) fun _ z => z)
    have q1 := q.step s1
    split at wd
    · rename_i ds e
      obtain ⟨ov, e1, p, vs, rfl, h1, h2, h3, h4⟩ := q1.sl i _ e
      refine ⟨_, e1, ?_⟩
      refine b2 H0 G0 σ H1 G1 ρ _ q1 (Wp.imp (wp_out q1 wd) (fun k wk u H2 G2 s2 r2 => ?_) fun _ z => z)
      have q2 := q1.step s2
      split at wk
      · rename_i n
        cases Rp.int_inv r2
        split at wk
        · rename_i j ej
          have g2 := s2.sep p h2 (by rw [h1]; exact Option.some_ne_none _)
          refine ⟨p, vs, n, j, rfl, rfl, s2.hh _ _ h1, by rw [h4.length]; exact ej, ?_⟩
          exact wk _ _ G2 (q2.write e rfl (fun _ _ z => nomatch z) (fun _ _ z => nomatch z) e1 ⟨p, _, rfl, upd_same, g2, h3, (h4.mono s2.gg).set j (Rp.mono s2.gg r1)⟩)
        · exact wk.elim
      · exact wk.elim
    · exact wd.elim⟩
end
end Ct

namespace Ct
open PySem PySem.Spec PyProof.Rows L2

/-! ### targets -/
abbrev Tg := D → Rho → Rs Rho
def tgN (i : Nat) : Tg := fun d ρ => .ok (ρ.set i (.va d))
def tgL : List Tg → List D → Rho → Rs Rho
  | [], [], ρ => .ok ρ
  | t :: ts, d :: ds, ρ => (t d ρ).bind fun ρ' => tgL ts ds ρ'
  | _, _, _ => .stuck
def tgT (l : List Tg) : Tg := fun d ρ => match d with
  | .tuple ds => tgL l ds ρ
  | _ => .stuck
/-- what a target leaves: all slots but its own (is) -/
structure TgE (S : Sx) (is : List Nat) (H0 G0 : Hp) (σ : St) (H G : Hp) (ρ' : Rho) (σ' : St) : Prop where
  ok : Ok S H0 G0 σ' H G ρ'
  out : ∀ j, j ∉ is → σ'[j]? = σ[j]?
  len : σ'.length = σ.length
def XG (S : Sx) (tg : Expr) (is : List Nat) (f : Tg) : Prop := ∃ g, PG S.X tg g ∧ ∀ H0 G0 σ H G ρ v d (Q : St → Hp → Prop), Ok S H0 G0 σ H G ρ → Rp G v d → Wp (f d ρ) (fun ρ' => ∀ σ', TgE S is H0 G0 σ H G ρ' σ' → Q σ' H) (fun _ => False) → g v σ H Q
def XGs (S : Sx) (tgs : List Expr) (is : List Nat) (fs : List Tg) : Prop := ∃ g, PGs S.X tgs g ∧ ∀ H0 G0 σ H G ρ vs ds (Q : St → Hp → Prop), Ok S H0 G0 σ H G ρ → RpL G vs ds → Wp (tgL fs ds ρ) (fun ρ' => ∀ σ', TgE S is H0 G0 σ H G ρ' σ' → Q σ' H) (fun _ => False) → g vs σ H Q
section
variable {S : Sx}
theorem xg_name (i : Nat) {x : Str} {pos : Pos} (hp : PG S.X (.Name x pos) (gName i)) : XG S (.Name x pos) [i] (tgN i) := ⟨_, hp, fun H0 G0 σ H G ρ v d Q q r w =>
  wp_ok w _ ⟨q.setV r, fun j hj => List.getElem?_set_ne (fun e => hj (by rw [e]; exact List.mem_cons_self)), List.length_set⟩⟩
theorem xgs_nil : XGs S [] [] [] := ⟨_, pgs_nil, fun H0 G0 σ H G ρ vs ds Q q r w => by
  cases r with
  | nil => exact ⟨rfl, wp_ok w _ ⟨q, fun _ _ => rfl, rfl⟩⟩
  | cons _ _ => exact w.elim⟩
theorem xgs_cons {e : Expr} {es : List Expr} {is js : List Nat} {f : Tg} {fs : List Tg} (h1 : XG S e is f) (h2 : XGs S es js fs)
    (hs : (assignEach (e :: es) S.X.env).map (·.2) = assign e S.X.env :: (assignEach es S.X.env).map (·.2) := by rfl) : XGs S (e :: es) (is ++ js) (f :: fs) :=
  let ⟨_, a1, a2⟩ := h1; let ⟨_, b1, b2⟩ := h2; ⟨_, pgs_cons a1 b1 hs, fun H0 G0 σ H G ρ vs ds Q q r w => by
    cases r with
    | nil => exact w.elim
    | cons r1 r2 =>
      refine ⟨_, _, rfl, a2 H0 G0 σ H G ρ _ _ _ q r1 (Wp.imp (Wp.bind w) (fun ρ' w' σ' t' => ?_) fun _ z => z)⟩
      refine b2 H0 G0 σ' H G ρ' _ _ _ t'.ok r2 (Wp.imp w' (fun ρ2 w2 σ2 t2 => ?_) fun _ z => z)
      refine w2 σ2 ⟨t2.ok, fun j hj => ?_, t2.len.trans t'.len⟩
      rw [List.mem_append, not_or] at hj
      exact (t2.out j hj.2).trans (t'.out j hj.1)⟩
theorem xg_tup {es : List Expr} {k n : Nat} {pos : Pos} {is : List Nat} {fs : List Tg} (hp : ∀ t, PGs S.X es t → PG S.X (.Tuple es k pos) (gTup S.X.K n t)) (hn : fs.length = n) (h : XGs S es is fs) : XG S (.Tuple es k pos) is (tgT fs) :=
  let ⟨_, a1, a2⟩ := h; ⟨_, hp _ a1, fun H0 G0 σ H G ρ v d Q q r w => by
    unfold tgT at w
    split at w
    · rename_i ds
      obtain ⟨a, xs, rfl, h1, h2⟩ := Rp.tup_inv r
      have len : ∀ (fs : List Tg) (ds : List D) (ρ : Rho) (P : Rho → Prop), Wp (tgL fs ds ρ) P (fun _ => False) → fs.length = ds.length := by
        intro fs
        induction fs with
        | nil => intro ds ρ P w; cases ds with
          | nil => rfl
          | cons _ _ => exact w.elim
        | cons f fs ih => intro ds ρ P w; cases ds with
          | nil => exact w.elim
          | cons d ds =>
            have w := Wp.bind w
            cases e : f d ρ with
            | ok ρ' => rw [e] at w; rw [List.length_cons, List.length_cons, ih ds ρ' P w]
            | exc _ => rw [e] at w; exact w.elim
            | stuck => rw [e] at w; exact w.elim
      exact ⟨a, xs, rfl, .of (q.st.sub _ _ h1), by rw [h2.length, ← len _ _ _ _ w, hn], a2 H0 G0 σ H G ρ xs ds Q q h2 w⟩
    · exact w.elim⟩
/-- a, b = e -/
def fAsgT (t : Tg) (f : Rho → Rs D) : Rho → Out := fun ρ => (f ρ).out ρ fun d => match t d ρ with
  | .ok ρ' => .nx ρ'
  | _ => .stuck
theorem xs_asgT {kd : Kd} {st : Stmt} {e tg : Expr} {is : List Nat} {t : Tg} {f : Rho → Rs D} (hp : ∀ te g, PE S.X e te → PG S.X tg g → PS S.X st (tAsg te g)) (h : XX S .e e f) (hg : XG S tg is t) : XS S kd st (fAsgT t f) :=
  let ⟨_, a1, a2⟩ := h; let ⟨_, b1, b2⟩ := hg; ⟨_, hp _ _ a1 b1, fun H0 G0 σ H G ρ N q w => by
    refine a2 H0 G0 σ H G ρ _ q (Wp.imp (wp_out q w) (fun d wd v H1 G1 s1 r1 => ?_) fun _ z => z)
    refine b2 H0 G0 σ H1 G1 ρ v d _ (q.step s1) r1 ?_
    cases e : t d ρ with
    | ok ρ' => rw [e] at wd; exact fun σ' te => wd σ' H1 G1 te.ok
    | exc _ => rw [e] at wd; exact wd.elim
    | stuck => rw [e] at wd; exact wd.elim⟩
end

/-! ### what is walked -/
/-- an iterator that gives ds, wherever what stands for good stands -/
def ItOk (J : It) (G1 : Hp) (ds : List D) : Prop := ∀ (i : Nat) (H G : Hp), Same G1 G → Same G H → (ds.length ≤ i → J.stop i H) ∧ ∀ d, ds[i]? = some d → J.go i H ∧ ∀ x H', J.yld i H x H' → ∃ G', Step H G H' G' ∧ Rp G' x d
def XI (S : Sx) (tg iter : Expr) (f : Rho → Rs (List D)) : Prop := ∃ wi, PI S.X tg iter wi ∧ ∀ H0 G0 σ H G ρ (R : It → Hp → Prop), Ok S H0 G0 σ H G ρ → Wp (f ρ) (fun ds => ∀ J H' G', Step H G H' G' → ItOk J G' ds → R J H') (ExW S σ H G) → wi σ H R
def iLst (f : Rho → Rs D) : Rho → Rs (List D) := fun ρ => (f ρ).bind fun d => match d with
  | .list ds => .ok ds
  | _ => .stuck
def iTpl (f : Rho → Rs D) : Rho → Rs (List D) := fun ρ => (f ρ).bind fun d => match d with
  | .tuple ds => .ok ds
  | _ => .stuck
def rngD (lo hi : Int) : List D := (List.range (hi - lo).toNat).map fun i => .int (lo + (i : Nat))
def iRg1 (g : Rho → Rs (List D)) : Rho → Rs (List D) := fun ρ => (g ρ).bind fun as => match as with
  | [.int j] => if -(2 ^ 62) ≤ j ∧ j < 2 ^ 62 then .ok (rngD 0 j) else .stuck
  | _ => .stuck
def iRg2 (g : Rho → Rs (List D)) : Rho → Rs (List D) := fun ρ => (g ρ).bind fun as => match as with
  | [.int i, .int j] => if -(2 ^ 62) ≤ i ∧ i < 2 ^ 62 ∧ -(2 ^ 62) ≤ j ∧ j < 2 ^ 62 then .ok (rngD i j) else .stuck
  | _ => .stuck
def iEnu (f : Rho → Rs D) : Rho → Rs (List D) := fun ρ => (f ρ).bind fun d => match d with
  | .list ds => .ok (ds.mapIdx fun i d => .tuple [.int (i : Nat), d])
  | _ => .stuck
def iRv (f : Rho → Rs D) : Rho → Rs (List D) := fun ρ => (f ρ).bind fun d => match d with
  | .list ds => .ok ds.reverse
  | _ => .stuck
def iRvR (f : Rho → Rs D) : Rho → Rs (List D) := fun ρ => (f ρ).bind fun d => match d with
  | .int j => if -(2 ^ 62) ≤ j ∧ j < 2 ^ 62 then .ok (rngD 0 j).reverse else .stuck
  | _ => .stuck
section
variable {S : Sx} {tg : Expr} {K : PySem.W.Frag}
theorem sql_inj {H : Hp} {a : Addr} {xs ys : List V} (h : H a = some (.lst xs)) (k : PySem.W.Frag) (hk : k.lookup a = none) (h' : SqL k H a ys) : ys = xs := by
  rcases h' with (h' | ⟨o, h'⟩) | ⟨o, its, n, e, _⟩
  · rw [h] at h'; cases h'; rfl
  · rw [h] at h'; cases h'
  · rw [hk] at e; cases e
theorem ito_list {G1 : Hp} {a : Addr} {vs : List V} {ds : List D} (h : G1 a = some (.lst vs)) (hl : RpL G1 vs ds) : ItOk (Itl K a) G1 ds := fun i H G s1 s2 => by
  have hH : SqL K H a vs := .of (s2 _ _ (s1 _ _ h))
  refine ⟨fun hi => ⟨vs, hH, by rw [hl.length]; exact hi⟩, fun d hd => ?_⟩
  obtain ⟨v, hv, r⟩ := hl.get hd
  refine ⟨⟨vs, v, hH, hv⟩, fun x H' y => ?_⟩
  obtain ⟨rfl, y⟩ := y
  have : some v = some x := hv.symm.trans (y vs hH)
  cases this
  exact ⟨G, Step.refl s2, r.mono s1⟩
theorem ito_tup {G1 : Hp} {a : Addr} {vs : List V} {ds : List D} (h : G1 a = some (.tup vs)) (hl : RpL G1 vs ds) : ItOk (Itt K a) G1 ds := fun i H G s1 s2 => by
  have hH : SqT K H a vs := .of (s2 _ _ (s1 _ _ h))
  refine ⟨fun hi => ⟨vs, hH, by rw [hl.length]; exact hi⟩, fun d hd => ?_⟩
  obtain ⟨v, hv, r⟩ := hl.get hd
  refine ⟨⟨vs, v, hH, hv⟩, fun x H' y => ?_⟩
  obtain ⟨rfl, y⟩ := y
  have : some v = some x := hv.symm.trans (y vs hH)
  cases this
  exact ⟨G, Step.refl s2, r.mono s1⟩
theorem rngD_get {lo hi : Int} {i : Nat} {d : D} (h : (rngD lo hi)[i]? = some d) : i < (hi - lo).toNat ∧ d = .int (lo + (i : Nat)) := by
  unfold rngD at h
  rw [List.getElem?_map] at h
  cases e : (List.range (hi - lo).toNat)[i]? with
  | none => rw [e] at h; cases h
  | some j =>
    rw [e] at h
    obtain ⟨h1, h2⟩ := List.getElem?_eq_some_iff.mp e
    rw [List.getElem_range] at h2
    subst h2
    rw [List.length_range] at h1
    cases h
    exact ⟨h1, rfl⟩
theorem rngD_len (lo hi : Int) : (rngD lo hi).length = (hi - lo).toNat := by unfold rngD; rw [List.length_map, List.length_range]
theorem ito_range {G1 : Hp} (lo hi : Int) : ItOk (Itr lo (hi - lo).toNat) G1 (rngD lo hi) := fun i H G s1 s2 => by
  refine ⟨fun h => by rw [rngD_len] at h; exact h, fun d hd => ?_⟩
  obtain ⟨h1, rfl⟩ := rngD_get hd
  refine ⟨h1, fun x H' y => ?_⟩
  obtain ⟨rfl, rfl⟩ := y
  exact ⟨G, Step.refl s2, .int _⟩
theorem ito_enum {G1 : Hp} {a : Addr} {vs : List V} {ds : List D} (h : G1 a = some (.lst vs)) (hl : RpL G1 vs ds) : ItOk (Ite K a) G1 (ds.mapIdx fun i d => .tuple [.int (i : Nat), d]) := fun i H G s1 s2 => by
  have hH : SqL K H a vs := .of (s2 _ _ (s1 _ _ h))
  refine ⟨fun hi => ⟨vs, hH, by rw [hl.length]; rw [List.length_mapIdx] at hi; exact hi⟩, fun d hd => ?_⟩
  rw [List.getElem?_mapIdx] at hd
  cases e : ds[i]? with
  | none => rw [e] at hd; cases hd
  | some d0 =>
    rw [e] at hd
    cases hd
    obtain ⟨v, hv, r⟩ := hl.get e
    refine ⟨⟨vs, v, hH, hv⟩, fun x H' y => ?_⟩
    obtain ⟨T, x0, rfl, hT, rfl, y⟩ := y
    have : some v = some x0 := hv.symm.trans (y vs hH)
    cases this
    exact ⟨_, Step.new s2 hT, .tup upd_same (.cons (.int _) (.cons (r.mono (s1.trans (same_new (Same.free s2 hT)))) .nil))⟩
theorem ito_rev {G1 : Hp} {a : Addr} {vs : List V} {ds : List D} (h : G1 a = some (.lst vs)) (hl : RpL G1 vs ds) : ItOk (Itv K a vs.length) G1 ds.reverse := fun i H G s1 s2 => by
  have hH : SqL K H a vs := .of (s2 _ _ (s1 _ _ h))
  refine ⟨fun hi => by rw [List.length_reverse, ← hl.length] at hi; exact hi, fun d hd => ?_⟩
  have hi : i < ds.length := by
    rw [← List.length_reverse]
    exact (List.getElem?_eq_some_iff.mp hd).1
  rw [List.getElem?_reverse hi] at hd
  obtain ⟨v, hv, r⟩ := hl.get hd
  rw [← hl.length] at hv
  refine ⟨⟨by rw [hl.length]; exact hi, vs, v, hH, hv⟩, fun x H' y => ?_⟩
  obtain ⟨rfl, y⟩ := y
  have : some v = some x := hv.symm.trans (y vs hH)
  cases this
  exact ⟨G, Step.refl s2, r.mono s1⟩
theorem xi_list {l : Expr} {f : Rho → Rs D} (h : XX S .e l f) : XI S tg l (iLst f) :=
  let ⟨_, a1, a2⟩ := h; ⟨_, pi_list a1, fun H0 G0 σ H G ρ R q w => by
    refine a2 H0 G0 σ H G ρ _ q (Wp.imp (Wp.bind w) (fun d wd v H1 G1 s1 r1 => ?_) fun _ z => z)
    cases d with
    | list ds =>
      obtain ⟨a, xs, rfl, h1, h2⟩ := Rp.lst_inv r1
      exact ⟨a, rfl, ⟨xs, .of (s1.sub _ _ h1)⟩, wp_ok wd _ _ _ s1 (ito_list h1 h2)⟩
    | _ => exact wd.elim⟩
theorem xi_tup {l : Expr} {f : Rho → Rs D} (h : XX S .e l f) : XI S tg l (iTpl f) :=
  let ⟨_, a1, a2⟩ := h; ⟨_, pi_tup a1, fun H0 G0 σ H G ρ R q w => by
    refine a2 H0 G0 σ H G ρ _ q (Wp.imp (Wp.bind w) (fun d wd v H1 G1 s1 r1 => ?_) fun _ z => z)
    cases d with
    | tuple ds =>
      obtain ⟨a, xs, rfl, h1, h2⟩ := Rp.tup_inv r1
      exact ⟨a, rfl, ⟨xs, .of (s1.sub _ _ h1)⟩, wp_ok wd _ _ _ s1 (ito_tup h1 h2)⟩
    | _ => exact wd.elim⟩
theorem xi_range1 {iter e : Expr} {g : Rho → Rs (List D)} (hp : ∀ ta, PA S.X [e] ta → PI S.X tg iter (iRng1 ta)) (h : XA S .b [e] g) : XI S tg iter (iRg1 g) :=
  let ⟨_, a1, a2⟩ := h; ⟨_, hp _ a1, fun H0 G0 σ H G ρ R q w => by
    refine a2 H0 G0 σ H G ρ _ q (Wp.imp (Wp.bind w) (fun ds wd vs H1 G1 s1 r1 => ?_) fun _ z => z)
    split at wd
    · split at wd
      · rename_i j c
        cases r1 with
        | cons x y =>
          cases y
          cases Rp.int_inv x
          have e : ∀ j : Int, (j - 0).toNat = j.toNat := fun j => by rw [Int.sub_zero]
          have := wp_ok wd (Itr 0 (j - 0).toNat) _ _ s1 (ito_range 0 j)
          rw [e] at this
          exact ⟨j, rfl, c.1, c.2, this⟩
      · exact wd.elim
    · exact wd.elim⟩
theorem xi_range2 {iter e e2 : Expr} {g : Rho → Rs (List D)} (hp : ∀ ta, PA S.X [e, e2] ta → PI S.X tg iter (iRng2 ta)) (h : XA S .b [e, e2] g) : XI S tg iter (iRg2 g) :=
  let ⟨_, a1, a2⟩ := h; ⟨_, hp _ a1, fun H0 G0 σ H G ρ R q w => by
    refine a2 H0 G0 σ H G ρ _ q (Wp.imp (Wp.bind w) (fun ds wd vs H1 G1 s1 r1 => ?_) fun _ z => z)
    split at wd
    · split at wd
      · rename_i i j c
        cases r1 with
        | cons x y =>
          cases y with
          | cons y z =>
            cases z
            cases Rp.int_inv x
            cases Rp.int_inv y
            exact ⟨i, j, rfl, c, wp_ok wd _ _ _ s1 (ito_range i j)⟩
      · exact wd.elim
    · exact wd.elim⟩
theorem xi_enum {iter e : Expr} {f : Rho → Rs D} (hp : ∀ te, PE S.X e te → PI S.X tg iter (iEnum S.X.K (tCons te tNil))) (h : XX S .e e f) : XI S tg iter (iEnu f) :=
  let ⟨_, a1, a2⟩ := h; ⟨_, hp _ a1, fun H0 G0 σ H G ρ R q w => by
    refine a2 H0 G0 σ H G ρ _ q (Wp.imp (Wp.bind w) (fun d wd v H1 G1 s1 r1 => ?_) fun _ z => z)
    cases d with
    | list ds =>
      obtain ⟨a, xs, rfl, h1, h2⟩ := Rp.lst_inv r1
      exact ⟨a, xs, rfl, .of (s1.sub _ _ h1), wp_ok wd _ _ _ s1 (ito_enum h1 h2)⟩
    | _ => exact wd.elim⟩
theorem xi_rev {iter e : Expr} {f : Rho → Rs D} (hp : ∀ te, PE S.X e te → PI S.X tg iter (iRev S.X.K (tCons te tNil))) (h : XX S .e e f) : XI S tg iter (iRv f) :=
  let ⟨_, a1, a2⟩ := h; ⟨_, hp _ a1, fun H0 G0 σ H G ρ R q w => by
    refine a2 H0 G0 σ H G ρ _ q (Wp.imp (Wp.bind w) (fun d wd v H1 G1 s1 r1 => ?_) fun _ z => z)
    cases d with
    | list ds =>
      obtain ⟨a, xs, rfl, h1, h2⟩ := Rp.lst_inv r1
      exact ⟨a, xs, rfl, .of (s1.sub _ _ h1), wp_ok wd _ _ _ s1 (ito_rev h1 h2)⟩
    | _ => exact wd.elim⟩
theorem ito_revR {G1 : Hp} (j : Int) : ItOk (Itc (0 + (((j - 0).toNat : Nat) : Int) - 1) (-1) (j - 0).toNat) G1 (rngD 0 j).reverse := fun i H G s1 s2 => by
  refine ⟨fun h => by rw [List.length_reverse, rngD_len] at h; exact h, fun d hd => ?_⟩
  have hi : i < (rngD 0 j).length := by
    rw [← List.length_reverse]
    exact (List.getElem?_eq_some_iff.mp hd).1
  rw [List.getElem?_reverse hi] at hd
  obtain ⟨h1, rfl⟩ := rngD_get hd
  rw [rngD_len] at hi h1
  refine ⟨hi, fun x H' y => ?_⟩
  obtain ⟨rfl, rfl⟩ := y
  refine ⟨G, Step.refl s2, ?_⟩
  have : (0 + (((j - 0).toNat : Nat) : Int) - 1 + (i : Nat) * -1) = 0 + (((rngD 0 j).length - 1 - i : Nat) : Int) := by
    rw [rngD_len]
    omega
  rw [this]
  exact .int _
theorem xi_revR {iter e : Expr} {f : Rho → Rs D} (hp : ∀ te, PE S.X e te → PI S.X tg iter (iRevR (tRg1 te))) (h : XX S .e e f) : XI S tg iter (iRvR f) :=
  let ⟨_, a1, a2⟩ := h; ⟨_, hp _ a1, fun H0 G0 σ H G ρ R q w => by
    refine a2 H0 G0 σ H G ρ _ q (Wp.imp (Wp.bind w) (fun d wd v H1 G1 s1 r1 => ?_) fun _ z => z)
    cases d with
    | int j =>
      have wd : Wp (if -(2 ^ 62) ≤ j ∧ j < 2 ^ 62 then Rs.ok (rngD 0 j).reverse else .stuck) (fun ds => ∀ J H' G', Step H G H' G' → ItOk J G' ds → R J H') (ExW S σ H G) := wd
      by_cases c : -(2 ^ 62) ≤ j ∧ j < 2 ^ 62
      · rw [if_pos c] at wd
        cases Rp.int_inv r1
        exact ⟨j, rfl, by decide, by decide, c.1, c.2, wp_ok wd _ _ _ s1 (ito_revR j)⟩
      · rw [if_neg c] at wd
        exact wd.elim
    | _ => exact wd.elim⟩
end

/-! ### for -/
def loopS (tg : Tg) (body : Rho → Out) : List D → Rho → Out
  | [], ρ => .nx ρ
  | d :: ds, ρ => match tg d ρ with
    | .ok ρ1 => match body ρ1 with
      | .nx ρ2 => loopS tg body ds ρ2
      | .ct ρ2 => loopS tg body ds ρ2
      | .brk ρ2 => .nx ρ2
      | o => o
    | _ => .stuck
def fFor (f : Rho → Rs (List D)) (tg : Tg) (body : Rho → Out) : Rho → Out := fun ρ => (f ρ).out ρ fun ds => loopS tg body ds ρ
section
variable {S : Sx} {kd : Kd}
/-- a later ground for what stands for good -/
theorem Step.rebase {H0 G0 H1 G1 H G : Hp} (a : Step H0 G0 H1 G1) (b : Step H0 G1 H G) : Step H0 G0 H G := ⟨b.hh, a.gg.trans b.gg, b.sub, fun x g h => b.sep x (a.sep x g h) h⟩
theorem Ok.rebase {H0 G0 H1 G1 H G : Hp} {σ : St} {ρ : Rho} (a : Step H0 G0 H1 G1) (q : Ok S H0 G1 σ H G ρ) : Ok S H0 G0 σ H G ρ := ⟨a.rebase q.st, q.len, q.sl, q.sep⟩
theorem Ok.base {H0 G0 H G : Hp} {σ : St} {ρ : Rho} (q : Ok S H0 G0 σ H G ρ) : Ok S H0 G σ H G ρ := ⟨⟨q.st.hh, Same.refl _, q.st.sub, fun _ g _ => g⟩, q.len, q.sl, q.sep⟩
theorem OutP.rebase {H0 G0 H1 G1 : Hp} {N : Ends} (a : Step H0 G0 H1 G1) : ∀ {o : Out}, OutP S kd H0 G0 N o → OutP S kd H0 G1 N o
  | .nx _, h => fun σ H G q => h σ H G (q.rebase a)
  | .brk _, h => fun σ H G q => h σ H G (q.rebase a)
  | .ct _, h => fun σ H G q => h σ H G (q.rebase a)
  | .ret _, h => fun v H G s r => h v H G (a.rebase s) r
  | .exc _ _, h => fun c dd σ H G q r => h c dd σ H G (q.rebase a) r
  | .stuck, h => h
theorem ts_for {wi : TI} {g : TG} {tb : TS} {is : List Nat} {f : Rho → Rs (List D)} {tg : Tg} {body : Rho → Out}
    (hi : ∀ H0 G0 σ H G ρ (R : It → Hp → Prop), Ok S H0 G0 σ H G ρ → Wp (f ρ) (fun ds => ∀ J H' G', Step H G H' G' → ItOk J G' ds → R J H') (ExW S σ H G) → wi σ H R)
    (hg : ∀ H0 G0 σ H G ρ v d (Q : St → Hp → Prop), Ok S H0 G0 σ H G ρ → Rp G v d → Wp (tg d ρ) (fun ρ' => ∀ σ', TgE S is H0 G0 σ H G ρ' σ' → Q σ' H) (fun _ => False) → g v σ H Q)
    (hb : TSt S kd tb body) : TSt S kd (tFor wi g tb) (fFor f tg body) := fun H0 G0 σ H G ρ N q w => by
  refine hi H0 G0 σ H G ρ _ q (Wp.imp (wp_out q w) (fun ds wd J H1 G1 s1 it => ?_) fun _ z => z)
  have q1 := q.step s1
  have a : Step H0 G0 H1 G1 := q1.st
  refine ⟨fun i m σ H => m = ds.length - i ∧ i ≤ ds.length ∧ ∃ G ρ, Ok S H0 G1 σ H G ρ ∧ OutP S kd H0 G1 N (loopS tg body (ds.drop i) ρ), ⟨ds.length, by simp, Nat.zero_le _, G1, ρ, q1.base, wd.rebase a⟩, ?_⟩
  rintro i m σ H ⟨rfl, hle, G, ρ, q, w⟩
  by_cases hlt : i < ds.length
  · obtain ⟨go, tn⟩ := (it i H G q.st.gg q.st.sub).2 ds[i] (List.getElem?_eq_getElem hlt)
    rw [List.drop_eq_getElem_cons hlt] at w
    refine .inr ⟨go, fun σ' H' => ∃ G ρ, Ok S H0 G1 σ' H' G ρ ∧ OutP S kd H0 G1 N (loopS tg body (ds.drop (i + 1)) ρ), fun σ' H' ⟨G', ρ', z1, z2⟩ => ⟨ds.length - (i + 1), by omega, rfl, hlt, G', ρ', z1, z2⟩, fun x H' y => ?_⟩
    obtain ⟨G', s', r'⟩ := tn x H' y
    unfold loopS at w
    refine hg H0 G1 σ H' G' ρ x _ _ (q.step s') r' ?_
    cases e : tg ds[i] ρ with
    | exc _ => rw [e] at w; exact w.elim
    | stuck => rw [e] at w; exact w.elim
    | ok ρ1 =>
      rw [e] at w
      refine fun σ2 te => hb H0 G1 σ2 H' G' ρ1 _ te.ok ?_
      cases e2 : body ρ1 with
      | nx ρ2 => simp only [e2] at w; exact fun σ3 H3 G3 q3 => ⟨G3, ρ2, q3, w⟩
      | ct ρ2 => simp only [e2] at w; exact fun σ3 H3 G3 q3 => ⟨G3, ρ2, q3, w⟩
      | brk ρ2 => simp only [e2] at w; exact w
      | ret d => simp only [e2] at w; exact w
      | exc d r => simp only [e2] at w; exact w
      | stuck => simp only [e2] at w; exact w
  · have : i = ds.length := by omega
    subst this
    rw [List.drop_length] at w
    exact .inl ⟨(it _ H G q.st.gg q.st.sub).1 (Nat.le_refl _), w σ H G q⟩
theorem xs_for {st : Stmt} {tge iter : Expr} {bd : List Stmt} {is : List Nat} {f : Rho → Rs (List D)} {tg : Tg} {body : Rho → Out} (hp : ∀ wi g tb, PI S.X tge iter wi → PG S.X tge g → PSs S.X bd tb → PS S.X st (tFor wi g tb))
    (h1 : XI S tge iter f) (h2 : XG S tge is tg) (h3 : XSs S kd bd body) : XS S kd st (fFor f tg body) :=
  let ⟨_, a1, a2⟩ := h1; let ⟨_, b1, b2⟩ := h2; let ⟨_, c1, c2⟩ := h3; ⟨_, hp _ _ _ a1 b1 c1, ts_for a2 b2 c2⟩

/-! ### while -/
def whileS (c : Rho → Rs Bool) (body : Rho → Out) : Nat → Rho → Out
  | 0, _ => .stuck
  | n + 1, ρ => (c ρ).out ρ fun b => if b = true then (match body ρ with
    | .nx ρ2 => whileS c body n ρ2
    | .ct ρ2 => whileS c body n ρ2
    | .brk ρ2 => .nx ρ2
    | o => o) else .nx ρ
theorem xs_while {st : Stmt} {ce : Expr} {bd : List Stmt} {c : Rho → Rs Bool} {body : Rho → Out} (n : Nat) (hp : ∀ tc tb, PT S.X ce tc → PSs S.X bd tb → PS S.X st (tWhile tc tb)) (h1 : XT S ce c) (h2 : XSs S kd bd body) : XS S kd st (whileS c body n) :=
  let ⟨_, a1, a2⟩ := h1; let ⟨_, b1, b2⟩ := h2; ⟨_, hp _ _ a1 b1, fun H0 G0 σ H G ρ N q w => by
    refine ⟨fun m σ H => ∃ G ρ, Ok S H0 G0 σ H G ρ ∧ OutP S kd H0 G0 N (whileS c body m ρ), ⟨n, G, ρ, q, w⟩, ?_⟩
    rintro m σ H ⟨G, ρ, q, w⟩
    cases m with
    | zero => exact w.elim
    | succ m =>
      refine a2 H0 G0 σ H G ρ _ q (Wp.imp (wp_out q w) (fun b wb H1 G1 s1 => ?_) fun _ z => z)
      cases b with
      | false => exact iteF (wb σ H1 G1 (q.step s1))
      | true =>
        refine iteT ⟨fun σ' H' => ∃ G ρ, Ok S H0 G0 σ' H' G ρ ∧ OutP S kd H0 G0 N (whileS c body m ρ), fun σ' H' z => ⟨m, Nat.lt_succ_self m, z⟩, ?_⟩
        have wb : OutP S kd H0 G0 N (match body ρ with
          | .nx ρ2 => whileS c body m ρ2
          | .ct ρ2 => whileS c body m ρ2
          | .brk ρ2 => .nx ρ2
          | o => o) := wb
        refine b2 H0 G0 σ H1 G1 ρ _ (q.step s1) ?_
        cases e2 : body ρ with
        | nx ρ2 => simp only [e2] at wb; exact fun σ3 H3 G3 q3 => ⟨G3, ρ2, q3, wb⟩
        | ct ρ2 => simp only [e2] at wb; exact fun σ3 H3 G3 q3 => ⟨G3, ρ2, q3, wb⟩
        | brk ρ2 => simp only [e2] at wb; exact wb
        | ret d => simp only [e2] at wb; exact wb
        | exc d r => simp only [e2] at wb; exact wb
        | stuck => simp only [e2] at wb; exact wb⟩
end
end Ct

namespace Ct
open PySem PySem.Spec PyProof.Rows L2

/-! ### comprehensions -/
def wipeR (ρ : Rho) : List Nat → Rho
  | [] => ρ
  | v :: vs => (wipeR ρ vs).set v .un
def compS (tg : Tg) (c : Rho → Rs Bool) (e : Rho → Rs D) (ρ : Rho) : List D → Rs (List D)
  | [] => .ok []
  | d :: ds => match tg d ρ with
    | .ok ρ1 => match c ρ1 with
      | .ok true => match e ρ1 with
        | .ok y => (compS tg c e ρ ds).bind fun r => .ok (y :: r)
        | _ => .stuck
      | .ok false => compS tg c e ρ ds
      | _ => .stuck
    | _ => .stuck
def fComp (vs : List Nat) (f : Rho → Rs (List D)) (tg : Tg) (c : Rho → Rs Bool) (e : Rho → Rs D) : Rho → Rs D := fun ρ => (f ρ).bind fun ds => if ds.length ≤ sizeLine then (match compS tg c e (wipeR ρ vs) ds with
  | .ok r => .ok (.list r)
  | _ => .stuck) else .stuck
def fYes : Rho → Rs Bool := fun _ => .ok true
/-- a block's context -/
abbrev Sx.blk (S : Sx) (X' : Cx) : Sx := { S with X := X', W := fun _ _ _ _ => False }
def XTs (S : Sx) (ifs : List Expr) (c : Rho → Rs Bool) : Prop := ∃ t, PTs S.X ifs t ∧ TB S t c
theorem xts_nil {S : Sx} : XTs S [] fYes := ⟨_, pts_nil, fun H0 G0 σ H G ρ Q q w => wp_ok w H G (Step.refl q.st.sub)⟩
theorem xts_one {S : Sx} {e : Expr} {c : Rho → Rs Bool} (h : XT S e c) : XTs S [e] c := let ⟨_, a1, a2⟩ := h; ⟨_, pts_one a1, a2⟩

/-- the weakest readings -/
def uE (S : Sx) (k : Kd) (f : Rho → Rs D) : TE := fun σ H Q => ∃ H0 G0 G ρ, Ok S H0 G0 σ H G ρ ∧ Wp (f ρ) (fun d => ∀ v H' G', Step H G H' G' → RK k H H' G' v d → Q v H') (fun _ => False)
def uT (S : Sx) (c : Rho → Rs Bool) : TT := fun σ H Q => ∃ H0 G0 G ρ, Ok S H0 G0 σ H G ρ ∧ Wp (c ρ) (fun b => ∀ H' G', Step H G H' G' → Q b H') (fun _ => False)
def uG (S : Sx) (is : List Nat) (f : Tg) : TG := fun v σ H Q => ∃ H0 G0 G ρ d, Ok S H0 G0 σ H G ρ ∧ Rp G v d ∧ Wp (f d ρ) (fun ρ' => ∀ σ', TgE S is H0 G0 σ H G ρ' σ' → Q σ' H) (fun _ => False)
theorem Ok.conv {S S' : Sx} (h1 : S'.ca = S.ca) (h2 : S'.cf = S.cf) (h3 : S'.xa = S.xa) {H0 G0 H G : Hp} {σ : St} {ρ : Rho} (q : Ok S H0 G0 σ H G ρ) : Ok S' H0 G0 σ H G ρ :=
  ⟨q.st, q.len, fun i s e => by
    obtain ⟨ov, e1, e2⟩ := q.sl i s e
    refine ⟨ov, e1, ?_⟩
    cases s with
    | ex er =>
      obtain ⟨a, cls, dd, x1, x2, x3⟩ := e2
      exact ⟨a, cls, dd, by rw [h3]; exact x1, x2, by rw [h1, h2]; exact x3⟩
    | _ => exact e2, q.sep⟩
section
variable {S : Sx} {X' : Cx} {k : Kd}
theorem pe_u {e : Expr} {f : Rho → Rs D} (h : XX (S.blk X') k e f) : PE X' e (uE S k f) :=
  let ⟨_, a1, a2⟩ := h; ⟨fun pins s σ H Q I ⟨H0, G0, G, ρ, q, w⟩ => a1.run pins s σ H Q I (a2 H0 G0 σ H G ρ Q (Ok.conv (S := S) (S' := S.blk X') rfl rfl rfl q) (w.imp (fun _ z => z) fun _ z => z.elim))⟩
theorem pts_u {e : List Expr} {c : Rho → Rs Bool} (h : XTs (S.blk X') e c) : PTs X' e (uT S c) :=
  let ⟨_, a1, a2⟩ := h; ⟨fun pins s σ H Q I ⟨H0, G0, G, ρ, q, w⟩ => a1.run pins s σ H Q I (a2 H0 G0 σ H G ρ Q (Ok.conv (S := S) (S' := S.blk X') rfl rfl rfl q) (w.imp (fun _ z => z) fun _ z => z.elim))⟩
theorem pg_u {e : Expr} {is : List Nat} {f : Tg} (h : XG (S.blk X') e is f) : PG X' e (uG S is f) :=
  let ⟨_, a1, a2⟩ := h; ⟨fun pins s σ H v u Q I r ⟨H0, G0, G, ρ, d, q, rd, w⟩ => a1.run pins s σ H v u Q I r (a2 H0 G0 σ H G ρ v d Q (Ok.conv (S := S) (S' := S.blk X') rfl rfl rfl q) rd (w.imp (fun ρ' z σ' t => z σ' ⟨Ok.conv (S := S.blk X') (S' := S) rfl rfl rfl t.ok, t.out, t.len⟩) fun _ z => z))⟩
theorem Ok.wipe {H0 G0 H G : Hp} {σ : St} {ρ : Rho} (q : Ok S H0 G0 σ H G ρ) : ∀ vs : List Nat, Ok S H0 G0 (L2.wipe σ vs) H G (wipeR ρ vs)
  | [] => q
  | v :: vs => (q.wipe vs).setG rfl trivial
theorem wipe_get {σ : St} {j : Nat} : ∀ {vs : List Nat}, j ∈ vs → (L2.wipe σ vs)[j]? = if j < σ.length then some none else none
  | v :: vs, h => by
    show ((L2.wipe σ vs).set v none)[j]? = _
    rw [List.getElem?_set]
    by_cases e : v = j
    · subst e
      rw [if_pos rfl, wipe_length]
    · rw [if_neg e]
      rcases List.mem_cons.mp h with z | z
      · exact absurd z.symm e
      · exact wipe_get z
theorem wipe_same {σ σ2 : St} {vs is : List Nat} (hs : ∀ j ∈ is, j ∈ vs) (ho : ∀ j, j ∉ is → σ2[j]? = (L2.wipe σ vs)[j]?) (hl : σ2.length = (L2.wipe σ vs).length) : L2.wipe σ2 vs = L2.wipe σ vs := by
  apply List.ext_getElem?
  intro j
  rw [wipe_length] at hl
  by_cases h : j ∈ vs
  · rw [wipe_get h, wipe_get h, hl]
  · rw [wipe_out h]
    exact ho j fun z => h (hs j z)
theorem Step.atD {H1 G1 H G : Hp} {D : Addr} {o : HO} (s : Step H1 G1 H G) (h : H1 D = none) (g : G D = none) : Step H1 G1 (upd H D o) G where
  hh := fun a u e => by
    rw [upd_ne (ne_of_none e h)]
    exact s.hh a u e
  gg := s.gg
  sub := fun a u e => by
    rw [upd_ne (ne_of_none e g)]
    exact s.sub a u e
  sep := s.sep
theorem tv_comp {wi : TI} {is vs : List Nat} {f : Rho → Rs (List D)} {tg : Tg} {c : Rho → Rs Bool} {e : Rho → Rs D} (hs : ∀ j ∈ is, j ∈ vs)
    (hi : ∀ H0 G0 σ H G ρ (R : It → Hp → Prop), Ok S H0 G0 σ H G ρ → Wp (f ρ) (fun ds => ∀ J H' G', Step H G H' G' → ItOk J G' ds → R J H') (ExW S σ H G) → wi σ H R) :
    TV S .o (tLc wi (uG S is tg) (uT S c) (uE S .e e) vs) (fComp vs f tg c e) := fun H0 G0 σ H G ρ Q q w => by
  refine hi H0 G0 σ H G ρ _ q (Wp.imp (Wp.bind w) (fun ds wd J H1 G1 s1 it => ?_) fun _ z => z)
  have qw := (q.step s1).wipe vs
  by_cases hl : ds.length ≤ sizeLine
  · rw [if_pos hl] at wd
    cases ec : compS tg c e (wipeR ρ vs) ds with
    | exc er => rw [ec] at wd; exact wd.elim
    | stuck => rw [ec] at wd; exact wd.elim
    | ok res =>
      rw [ec] at wd
      have wd := wp_ok wd
      intro Da hD
      have gD : G1 Da = none := Same.free s1.sub hD
      refine ⟨fun i m Hc => m = ds.length - i ∧ i ≤ ds.length ∧ ∃ Gc acc accD rest, Step H1 G1 Hc Gc ∧ Hc Da = some (.lst acc) ∧ Gc Da = none ∧ RpL Gc acc accD ∧ acc.length ≤ i ∧ compS tg c e (wipeR ρ vs) (ds.drop i) = .ok rest ∧ accD ++ rest = res,
        ⟨ds.length, by simp, Nat.zero_le _, G1, [], [], res, Step.newO s1.sub hD, upd_same, gD, .nil, Nat.le_refl _, ec, rfl⟩, ?_⟩
      rintro i m Hc ⟨rfl, hle, Gc, acc, accD, rest, st, hA, gA, rA, lA, eR, eA⟩
      have sb := st.sub
      by_cases hlt : i < ds.length
      · obtain ⟨go, tn⟩ := (it i Hc Gc st.gg sb).2 ds[i] (List.getElem?_eq_getElem hlt)
        rw [List.drop_eq_getElem_cons hlt] at eR
        refine .inr ⟨go, fun H' => ∃ Gc acc accD rest, Step H1 G1 H' Gc ∧ H' Da = some (.lst acc) ∧ Gc Da = none ∧ RpL Gc acc accD ∧ acc.length ≤ i + 1 ∧ compS tg c e (wipeR ρ vs) (ds.drop (i + 1)) = .ok rest ∧ accD ++ rest = res,
          fun H' z => ⟨ds.length - (i + 1), by omega, rfl, hlt, z⟩, fun x H' y => ?_⟩
        obtain ⟨G', s', r'⟩ := tn x H' y
        unfold compS at eR
        have q' := qw.step (st.trans s')
        refine ⟨H0, G0, G', wipeR ρ vs, ds[i], q', r', ?_⟩
        cases e1 : tg ds[i] (wipeR ρ vs) with
        | exc _ => rw [e1] at eR; cases eR
        | stuck => rw [e1] at eR; cases eR
        | ok ρ1 =>
          rw [e1] at eR
          intro σ' te
          refine ⟨wipe_same hs te.out te.len, ⟨H0, G0, G', ρ1, te.ok, ?_⟩⟩
          cases e2 : c ρ1 with
          | exc _ => simp only [e2] at eR; cases eR
          | stuck => simp only [e2] at eR; cases eR
          | ok b =>
            intro H2 G2 s2
            cases b with
            | false =>
              simp only [e2] at eR
              refine iteF ?_
              have s3 := s'.trans s2
              exact ⟨G2, acc, accD, rest, st.trans s3, s3.hh _ _ hA, s3.sep Da gA (by rw [hA]; exact Option.some_ne_none _), rA.mono s3.gg, Nat.le_succ_of_le lA, eR, eA⟩
            | true =>
              simp only [e2] at eR
              refine iteT ⟨H0, G0, G2, ρ1, te.ok.step s2, ?_⟩
              cases e3 : e ρ1 with
              | exc _ => simp only [e3] at eR; cases eR
              | stuck => simp only [e3] at eR; cases eR
              | ok y =>
                simp only [e3] at eR
                intro v H4 G4 s4 r4
                have s5 := s'.trans (s2.trans s4)
                have st5 := st.trans s5
                have g5 := s5.sep Da gA (by rw [hA]; exact Option.some_ne_none _)
                refine ⟨acc, s5.hh _ _ hA, Nat.lt_of_le_of_lt lA (Nat.lt_of_lt_of_le hlt hl), ?_⟩
                cases e4 : compS tg c e (wipeR ρ vs) (ds.drop (i + 1)) with
                | exc _ => rw [e4] at eR; cases eR
                | stuck => rw [e4] at eR; cases eR
                | ok r5 =>
                  rw [e4] at eR
                  have eR : Rs.ok (y :: r5) = Rs.ok rest := eR
                  cases eR
                  refine ⟨G4, acc ++ [v], accD ++ [y], r5, st5.atD hD g5, upd_same, g5, (rA.mono s5.gg).append (.cons r4 .nil), by rw [List.length_append]; exact Nat.succ_le_succ lA, rfl, ?_⟩
                  rw [List.append_assoc]
                  exact eA
      · have : i = ds.length := by omega
        subst this
        rw [List.drop_length] at eR
        have eR : Rs.ok ([] : List D) = Rs.ok rest := eR
        cases eR
        rw [List.append_nil] at eA
        subst eA
        exact .inl ⟨(it _ Hc Gc st.gg sb).1 (Nat.le_refl _), wd _ Hc Gc (s1.trans st) ⟨Da, acc, accD, rfl, rfl, hA, Same.free s1.hh hD, gA, rA⟩⟩
  · rw [if_neg hl] at wd
    exact wd.elim
/-- [elt for tge in iter if ..]; hp: pe_lc -/
theorem xcomp {ex tge iter : Expr} {is vs : List Nat} {f : Rho → Rs (List D)} {tg : Tg} {c : Rho → Rs Bool} {e : Rho → Rs D} (hs : ∀ j ∈ is, j ∈ vs)
    (hp : ∀ wi, PI S.X tge iter wi → PE S.X ex (tLc wi (uG S is tg) (uT S c) (uE S .e e) vs)) (h1 : XI S tge iter f) : XX S .o ex (fComp vs f tg c e) :=
  let ⟨_, a1, a2⟩ := h1; ⟨_, hp _ a1, tv_comp hs a2⟩
theorem xs_comp {kd : Kd} {st : Stmt} {i : Nat} {tge iter : Expr} {is vs : List Nat} {f : Rho → Rs (List D)} {tg : Tg} {c : Rho → Rs Bool} {e : Rho → Rs D} (hs : ∀ j ∈ is, j ∈ vs)
    (hp : ∀ wi, PI S.X tge iter wi → PS S.X st (tAsg (tLc wi (uG S is tg) (uT S c) (uE S .e e) vs) (gName i))) (h1 : XI S tge iter f) : XS S kd st (fAsg i (fComp vs f tg c e)) :=
  let ⟨_, a1, a2⟩ := h1; ⟨_, hp _ a1, ts_set (TV.o_e (tv_comp hs a2))⟩
theorem xs_compO {kd : Kd} {st : Stmt} {i : Nat} {tge iter : Expr} {is vs : List Nat} {f : Rho → Rs (List D)} {tg : Tg} {c : Rho → Rs Bool} {e : Rho → Rs D} (hs : ∀ j ∈ is, j ∈ vs)
    (hp : ∀ wi, PI S.X tge iter wi → PS S.X st (tAsg (tLc wi (uG S is tg) (uT S c) (uE S .e e) vs) (gName i))) (h1 : XI S tge iter f) : XS S kd st (fAsgO i (fComp vs f tg c e)) :=
  let ⟨_, a1, a2⟩ := h1; ⟨_, hp _ a1, ts_setO (tv_comp hs a2)⟩
end

/-! ### what a def promises, and its call -/
def kdOf : Bool → Kd
  | true => .o
  | false => .e
def SpF (ca : Nat → Addr) (cf : Nat → List Str) (kd : Kd) (n : Nat) (f : List D → Rs D) : Sp := fun vs H Q E => vs.length = n ∧ ∃ G ds, Same G H ∧ RpL G vs ds ∧
  Wp (f ds) (fun d => ∀ v H' G', Step H G H' G' → RK kd H H' G' v d → Q v H') (fun er => ∀ c dd H' G', Step H G H' G' → ErR ca cf G' er c dd → E c dd H')
def startR (n : Nat) (ds : List D) : Rho := ds.map Sl.va ++ List.replicate (n - ds.length) Sl.un
/-- a body's outcome as the def's -/
def Out.res (own : Bool) : Out → Rs D
  | .nx _ => if own = true then .stuck else .ok .none
  | .ret d => .ok d
  | .exc e _ => .exc e
  | _ => .stuck
def runB (own : Bool) (m n : Nat) (g : Rho → Out) (ds : List D) : Rs D := if ds.length = m then (g (startR n ds)).res own else .stuck
theorem runB_len {own : Bool} {m n : Nat} {g : Rho → Out} (ds : List D) (h : ds.length ≠ m) : runB own m n g ds = .stuck := if_neg h
theorem start_ok {S : Sx} {H G : Hp} {vs : List V} {ds : List D} {N : List Str} (s : Same G H) (r : RpL G vs ds) : Ok S H G (L2.start N vs) H G (startR N.length ds) where
  st := Step.refl s
  len := by
    unfold L2.start startR
    rw [List.length_append, List.length_append, List.length_map, List.length_map, List.length_replicate, List.length_replicate, r.length]
  sl := fun i t e => by
    unfold startR at e
    unfold L2.start
    by_cases h : i < ds.length
    · rw [List.getElem?_append_left (by rw [List.length_map]; exact h)] at e
      rw [List.getElem?_append_left (by rw [List.length_map, r.length]; exact h)]
      rw [List.getElem?_map] at e ⊢
      cases ed : ds[i]? with
      | none => rw [ed] at e; cases e
      | some d =>
        rw [ed] at e
        cases e
        obtain ⟨v, ev, rv⟩ := r.get ed
        rw [ev]
        exact ⟨_, rfl, v, rfl, rv⟩
    · rw [List.getElem?_append_right (by rw [List.length_map]; omega), List.length_map] at e
      rw [List.getElem?_append_right (by rw [List.length_map, r.length]; omega), List.length_map, r.length]
      have z : i - ds.length < N.length - ds.length := by
        have := (List.getElem?_eq_some_iff.mp e).1
        rw [List.length_replicate] at this
        exact this
      rw [List.getElem?_replicate, if_pos z] at e ⊢
      cases e
      exact ⟨none, rfl, trivial⟩
  sep := fun i j a b p ne ea eb fa fb => by
    have oa := fa.own
    have : ∀ {k : Nat} {x : Sl}, (startR N.length ds)[k]? = some x → isOwn x = false := fun {k x} e => by
      have m := List.mem_of_getElem? e
      unfold startR at m
      rcases List.mem_append.mp m with m | m
      · obtain ⟨d, _, rfl⟩ := List.mem_map.mp m
        rfl
      · rw [(List.mem_replicate.mp m).2]
        rfl
    rw [this ea] at oa
    cases oa
/-- THE RULE for a def -/
theorem fn_body {P : Program} {w : World} {K : PySem.W.Frag} {mg : Str → Option Value} {base : Heap} {x qual : Str} {st : Stmt} {a : Addr} {fd : FuncData} {N ps : List Str} {k : Nat} {ca : Nat → Addr} {cf : Nat → List Str} {own : Bool} {kd : Kd} {g : Rho → Out}
    (F : Fun K x qual st a fd) (Sc : FnScope N ps (defScope st))
    (hb : ∀ (cdv : Value) (A : Around) (outer : List PySem.Env) (s : Shared) (H : Hp) (E : XK), Room k (A.deeper (envOfC qual (defScope st) s.heap.objs.size a cdv)) →
      XSs ⟨cxOf (L2.CX P w) P w K mg base N qual (defScope st) a cdv A outer s H E, fun cls d _ H => E cls d H, ca, cf, none⟩ kd (defBody st) g) (hk : own = false → kd = .e := by first | exact fun _ => rfl | exact (fun h => nomatch h)) :
    FnOk P w K mg base (L2.CX P w) (k + 1) a fd ps (SpF ca cf kd ps.length (runB own ps.length N.length g)) := by
  refine F.okX Sc (fun vs H Q E h => h.1) (fun cdv A outer s H vs Q E hr h => ?_)
  obtain ⟨hl, G, ds, sg, r, w'⟩ := h
  obtain ⟨t, a1, a2⟩ := hb cdv A outer s H E hr
  refine ⟨t, a1, a2 H G _ H G _ _ (start_ok sg r) ?_⟩
  unfold runB at w'
  rw [if_pos (r.length.symm.trans hl)] at w'
  cases e : g (startR N.length ds) with
  | nx ρ =>
    rw [e] at w'
    intro σ' H' G' q
    cases own with
    | true => exact w'.elim
    | false =>
      cases hk rfl
      exact w' .non H' G' q.st .non
  | ret d => rw [e] at w'; exact fun v H' G' s' r' => w' v H' G' s' r'
  | exc er ρ => rw [e] at w'; exact fun c dd σ' H' G' q er' => w' c dd H' G' q.st er'
  | brk ρ => rw [e] at w'; exact w'.elim
  | ct ρ => rw [e] at w'; exact w'.elim
  | stuck => rw [e] at w'; exact w'.elim
end Ct

namespace Ct
open PySem PySem.Spec PyProof.Rows L2

/-- what is known of a def that is called -/
structure Df (P : Program) (w : World) (K : PySem.W.Frag) (mg : Str → Option Value) (base : Heap) (ca : Nat → Addr) (cf : Nat → List Str) (k : Nat) (x : Str) (a : Addr) (fd : FuncData) (ps : List Str) (kd : Kd) (f : List D → Rs D) : Prop where
  ok : FnOk P w K mg base (L2.CX P w) k a fd ps (SpF ca cf kd ps.length f)
  gm : mg x = some (.ref a)
  kp : PySem.W.keepIn K (.ref a) = true
  len : ∀ ds, ds.length ≠ ps.length → f ds = .stuck
/-- one default fills up -/
def BindD (K : PySem.W.Frag) (fd : FuncData) (ps : List Str) (d : D) : Prop := ∃ ds v, (∀ G, Rp G v d) ∧ Vals [v] ds ∧ Binds K fd ps ds
/-- the last parameter by its name -/
def BindK (K : PySem.W.Frag) (fd : FuncData) (ps : List Str) (y : Str) : Prop := ∀ (s : Shared) (us : List Value) (u : Value), K.In s.heap → us.length + 1 = ps.length → BindsTo s fd ⟨us, [(y, u)]⟩ (ps.zip (us ++ [u]))
section
variable {X : Cx} {CX : CXT} {k : Nat} {a : Addr} {fd : FuncData} {ps : List Str} {sp : Sp} {E : L2.St → XK} {x y : Str} {p pos : Pos} {e e2 : Expr} {es : List Expr} {t : TA} {te : TE} {ds : List Value} {dvs : List V}
theorem run_g {pins : List (Addr × Obj)} {σ : L2.St} {H : Hp} {s : Shared} {Q : VK} {args : Args} {us : List Value} {vs : List V} (F : FnOk X.prog X.w X.K X.mg X.base CX k a fd ps sp) (hr : Room k X.A) (hb : BindsTo s fd args (ps.zip us)) (hx : PassesAt CX X σ (E σ))
    (J : Inv X pins σ H s) (rv : Vals vs us) (q : sp vs H Q (E σ)) : wpAny (model X.prog X.w) X.A (call (.ref a) args.pos args.kw) (EP X pins σ Q) X.xe s := by
  have main := F.run X.A X.stack s H args us vs Q (E σ) hr J.env0 hb rv q
  refine wpAny_call (codeAny_mono main fun out s2 ho => ?_)
  match out, ho with
  | .error er, ho => exact hx pins H s er s2 J ho
  | .ok (.ret _), ho => exact J.after ho
/-- f(e, ..) with defaults, an error wished for at the caller's slots -/
theorem pe_cg (F : FnOk X.prog X.w X.K X.mg X.base CX k a fd ps sp) (hr : Room k X.A) (hg : Gl X x) (hm : X.mg x = some (.ref a)) (hk : PySem.W.keepIn X.K (.ref a) = true) (hb : Binds X.K fd ps ds) (hd : Vals dvs ds) (hx : ∀ σ, PassesAt CX X σ (E σ))
    (ha : PA X (e :: es) t) (hdb : (x == ("__debug__" : Str)) = false) (he : starEach (e :: es) X.env = (false, eval e X.env) :: starEach es X.env) (hpl : (backTo pos (starEach es X.env)).any (·.1) = false) :
    PE X (.Call (.Name x p) (e :: es) [] pos) (fun σ H Q => t σ H fun vs H1 => sp (vs ++ dvs) H1 Q (E σ)) := ⟨fun pins s σ H Q J q => by
  refine wpAny_Call_Name_kw (ld_glob J hg hm ?_ hdb)
  refine PySem.W.callWith_K (h₀ := X.base) J.ok.mod.kin hk (thn (ha.run pos pins s σ H _ J q) fun us s1 z => ?_) he hpl
  obtain ⟨vs, H1, J1, rv, q1⟩ := z
  have rv2 : Vals (vs ++ dvs) (us ++ ds) := rv.append hd
  exact ⟨J1.kIn, run_g (args := ⟨us, []⟩) F hr (hb s1 us J1.kIn (rv2.length.symm.trans (F.len _ _ _ _ q1))) (hx σ) J1 rv2 q1⟩⟩
/-- f(e, .., y = e2) -/
theorem pe_ck (F : FnOk X.prog X.w X.K X.mg X.base CX k a fd ps sp) (hr : Room k X.A) (hg : Gl X x) (hm : X.mg x = some (.ref a)) (hk : PySem.W.keepIn X.K (.ref a) = true) (hb : BindK X.K fd ps y) (hx : ∀ σ, PassesAt CX X σ (E σ)) {kpos : Pos}
    (ha : PA X (e :: es) t) (h2 : PE X e2 te) (hdb : (x == ("__debug__" : Str)) = false) (he : starEach (e :: es) X.env = (false, eval e X.env) :: starEach es X.env)
    (hall : (backToKw pos (keywordEach [⟨some y, e2, kpos⟩] X.env)).all (·.1.isSome) = true) (hks : (backToKw pos (keywordEach [⟨some y, e2, kpos⟩] X.env)).filterMap (·.1) = [y])
    (hpl : ((backTo pos (starEach (e :: es) X.env)).any (·.1) || (backToKw pos (keywordEach [⟨some y, e2, kpos⟩] X.env)).any (·.1.isNone)) = false) :
    PE X (.Call (.Name x p) (e :: es) [⟨some y, e2, kpos⟩] pos) (fun σ H Q => t σ H fun vs H1 => te σ H1 fun v H2 => ∃ v', [v] = [v'] ∧ sp (vs ++ [v']) H2 Q (E σ)) := ⟨fun pins s σ H Q J q => by
  refine wpAny_Call_Name_kw (ld_glob J hg hm ?_ hdb)
  refine PySem.W.callWith_KW (h₀ := X.base) J.ok.mod.kin hk hall (thn (ha.run pos pins s σ H _ J q) fun us s1 z => ?_) hpl he
  obtain ⟨vs, H1, J1, rv, q1⟩ := z
  have hkw : PK X [⟨some y, e2, kpos⟩] (tCons te tNil) := pk_cons h2 pk_nil
  refine thn (hkw.run pos pins s1 σ H1 (fun zs H2 => ∃ v', zs = [v'] ∧ sp (vs ++ [v']) H2 Q (E σ)) J1 q1) fun ws s2 z => ?_
  obtain ⟨zs, H2, J2, rz, v, ez, q2⟩ := z
  subst ez
  refine ⟨J2.kIn, ?_⟩
  rw [hks]
  cases rz with
  | cons r1 r2 =>
    cases r2
    have hl := F.len _ _ _ _ q2
    rw [List.length_append, rv.length] at hl
    exact run_g (args := ⟨us, [(y, _)]⟩) F hr (hb s2 us _ J2.kIn hl) (hx σ) J2 (rv.append (.cons r1 .nil)) q2⟩
end

/-! ### calls, as functions -/
def fCall (f : List D → Rs D) (g : Rho → Rs (List D)) : Rho → Rs D := fun ρ => (g ρ).bind f
def fCallD (f : List D → Rs D) (d : D) (g : Rho → Rs (List D)) : Rho → Rs D := fun ρ => (g ρ).bind fun ds => f (ds ++ [d])
def fCallK (f : List D → Rs D) (g : Rho → Rs (List D)) (h : Rho → Rs D) : Rho → Rs D := fun ρ => (g ρ).bind fun ds => (h ρ).bind fun d => f (ds ++ [d])
section
variable {S : Sx} {k : Nat} {a : Addr} {fd : FuncData} {ps : List Str} {kd : Kd} {f : List D → Rs D} {x y : Str} {p pos kpos : Pos} {e e2 : Expr} {es : List Expr} {g : Rho → Rs (List D)} {h : Rho → Rs D}
/-- arguments that stand for good: so does what is given back -/
theorem sp_call {S : Sx} {n : Nat} {kd : Kd} {f : List D → Rs D} {H G H1 G1 : Hp} {σ : St} {Q : VK} {vs : List V} {ds : List D} (s1 : Step H G H1 G1) (r : RpL G1 vs ds) (hl : vs.length = n)
    (w : Wp (f ds) (fun d => ∀ v H' G', Step H G H' G' → RK kd H H' G' v d → Q v H') (ExW S σ H G)) : SpF S.ca S.cf kd n f vs H1 Q (WE S.W σ) :=
  ⟨hl, G1, ds, s1.sub, r, Wp.imp w (fun d q v H' G' s' r' => q v H' G' (s1.trans s') (r'.anti s1.hh)) fun er z c dd H' G' s' r' => z c dd H' G' (s1.trans s') r'⟩
/-- what a def may give back -/
def kdB : Kd → Prop
  | .e => True
  | .o => True
  | .w k => k.full = true
  | _ => False
/-- borrowed arguments: what is given back is borrowed -/
theorem sp_callb {S : Sx} {n : Nat} {kd : Kd} {f : List D → Rs D} {H G H1 G1 : Hp} {σ : St} {Q : VK} {vs : List V} {ds : List D} (hk : kdB kd) (s1 : Step H G H1 G1) (r : RpL H1 vs ds) (hl : vs.length = n)
    (w : Wp (f ds) (fun d => ∀ v H' G', Step H G H' G' → RK .b H H' G' v d → Q v H') (fun _ => False)) : SpF S.ca S.cf kd n f vs H1 Q (WE S.W σ) :=
  ⟨hl, H1, ds, Same.refl _, r, Wp.imp w (fun d q v H' G' s' r' => by
    have st : Step H1 G1 H' G1 := ⟨s'.hh, Same.refl _, s1.sub.trans s'.hh, fun _ z _ => z⟩
    refine q v H' G1 (s1.trans st) ?_
    cases kd with
    | e => exact Rp.mono s'.sub r'
    | o =>
      obtain ⟨p, ws, es, rfl, rfl, h1, h2, h3, h4⟩ := r'
      exact .lst h1 (h4.mono s'.sub)
    | w k =>
      obtain ⟨fp, h1, h2, h3⟩ := r'
      exact h1.rp s'.sub hk
    | s => exact hk.elim
    | b => exact hk.elim
    | d => exact hk.elim
    | m => exact hk.elim) fun _ z => z.elim⟩
/-- borrowed: an error stops all -/
def noE {α : Type} (r : Rs α) : Rs α := match r with
  | .exc _ => .stuck
  | r => r
theorem noE_wp {α : Type} {r : Rs α} {P : α → Prop} {E : Er → Prop} (w : Wp (noE r) P E) : Wp r P (fun _ => False) := by
  cases r with
  | ok a => exact w
  | exc e => exact w.elim
  | stuck => exact w
def fCallB (f : List D → Rs D) (g : Rho → Rs (List D)) : Rho → Rs D := fun ρ => (g ρ).bind fun ds => noE (f ds)
theorem Df.args {P : Program} {w : World} {K : PySem.W.Frag} {mg : Str → Option Value} {base : Heap} {ca : Nat → Addr} {cf : Nat → List Str} (C : Df P w K mg base ca cf k x a fd ps kd f) {ds : List D} {Pq : D → Prop} {Eq' : Er → Prop} (w : Wp (f ds) Pq Eq') : ds.length = ps.length := by
  by_cases h : ds.length = ps.length
  · exact h
  · rw [C.len ds h] at w
    exact w.elim
theorem xcall (C : Df S.X.prog S.X.w S.X.K S.X.mg S.X.base S.ca S.cf k x a fd ps kd f) (hb : Binds S.X.K fd ps []) (hr : Room k S.X.A) (tk : Takes S.X S.W) (ha : XA S .e (e :: es) g) (hg : Gl S.X x := by rfl)
    (hdb : (x == ("__debug__" : Str)) = false := by decide) (he : starEach (e :: es) S.X.env = (false, eval e S.X.env) :: starEach es S.X.env := by rfl) (hpl : (backTo pos (starEach es S.X.env)).any (·.1) = false := by rfl) :
    XX S kd (.Call (.Name x p) (e :: es) [] pos) (fCall f g) :=
  let ⟨t, a1, a2⟩ := ha
  ⟨_, pe_cg (E := WE S.W) C.ok hr hg C.gm C.kp hb .nil (fun σ => passAt tk σ) a1 hdb he hpl, fun H0 G0 σ H G ρ Q q w => by
    refine a2 H0 G0 σ H G ρ _ q (Wp.imp (Wp.bind w) (fun ds wd vs H1 G1 s1 r1 => ?_) fun _ z => z)
    rw [List.append_nil]
    exact sp_call s1 r1 ((RpL.length r1).trans (C.args wd)) wd⟩
theorem xcallB (C : Df S.X.prog S.X.w S.X.K S.X.mg S.X.base S.ca S.cf k x a fd ps kd f) (hb : Binds S.X.K fd ps []) (hr : Room k S.X.A) (tk : Takes S.X S.W) (ha : XA S .b (e :: es) g) (hk : kdB kd := by first | exact trivial | rfl) (hg : Gl S.X x := by rfl)
    (hdb : (x == ("__debug__" : Str)) = false := by decide) (he : starEach (e :: es) S.X.env = (false, eval e S.X.env) :: starEach es S.X.env := by rfl) (hpl : (backTo pos (starEach es S.X.env)).any (·.1) = false := by rfl) :
    XX S .b (.Call (.Name x p) (e :: es) [] pos) (fCallB f g) :=
  let ⟨t, a1, a2⟩ := ha
  ⟨_, pe_cg (E := WE S.W) C.ok hr hg C.gm C.kp hb .nil (fun σ => passAt tk σ) a1 hdb he hpl, fun H0 G0 σ H G ρ Q q w => by
    refine a2 H0 G0 σ H G ρ _ q (Wp.imp (Wp.bind w) (fun ds wd vs H1 G1 s1 r1 => ?_) fun _ z => z)
    rw [List.append_nil]
    have wd := noE_wp wd
    exact sp_callb hk s1 r1 ((RpL.length r1).trans (C.args wd)) wd⟩
/-- a default fills up -/
theorem xcallD {d : D} (C : Df S.X.prog S.X.w S.X.K S.X.mg S.X.base S.ca S.cf k x a fd ps kd f) (hb : BindD S.X.K fd ps d) (hr : Room k S.X.A) (tk : Takes S.X S.W) (ha : XA S .e (e :: es) g) (hg : Gl S.X x := by rfl)
    (hdb : (x == ("__debug__" : Str)) = false := by decide) (he : starEach (e :: es) S.X.env = (false, eval e S.X.env) :: starEach es S.X.env := by rfl) (hpl : (backTo pos (starEach es S.X.env)).any (·.1) = false := by rfl) :
    XX S kd (.Call (.Name x p) (e :: es) [] pos) (fCallD f d g) := by
  obtain ⟨t, a1, a2⟩ := ha
  obtain ⟨ds', v, hv, hv2, hb⟩ := hb
  refine ⟨_, pe_cg (E := WE S.W) C.ok hr hg C.gm C.kp hb hv2 (fun σ => passAt tk σ) a1 hdb he hpl, fun H0 G0 σ H G ρ Q q w => ?_⟩
  refine a2 H0 G0 σ H G ρ _ q (Wp.imp (Wp.bind w) (fun ds wd vs H1 G1 s1 r1 => ?_) fun _ z => z)
  have r2 : RpL G1 (vs ++ [v]) (ds ++ [d]) := RpL.append r1 (.cons (hv G1) .nil)
  exact sp_call s1 r2 (r2.length.trans (C.args wd)) wd
/-- the last parameter by its name -/
theorem xcallK (C : Df S.X.prog S.X.w S.X.K S.X.mg S.X.base S.ca S.cf k x a fd ps kd f) (hb : BindK S.X.K fd ps y) (hr : Room k S.X.A) (tk : Takes S.X S.W) (ha : XA S .e (e :: es) g) (h2 : XX S .e e2 h) (hg : Gl S.X x := by rfl)
    (hdb : (x == ("__debug__" : Str)) = false := by decide) (he : starEach (e :: es) S.X.env = (false, eval e S.X.env) :: starEach es S.X.env := by rfl)
    (hall : (backToKw pos (keywordEach [⟨some y, e2, kpos⟩] S.X.env)).all (·.1.isSome) = true := by rfl) (hks : (backToKw pos (keywordEach [⟨some y, e2, kpos⟩] S.X.env)).filterMap (·.1) = [y] := by rfl)
    (hpl : ((backTo pos (starEach (e :: es) S.X.env)).any (·.1) || (backToKw pos (keywordEach [⟨some y, e2, kpos⟩] S.X.env)).any (·.1.isNone)) = false := by rfl) :
    XX S kd (.Call (.Name x p) (e :: es) [⟨some y, e2, kpos⟩] pos) (fCallK f g h) :=
  let ⟨t, a1, a2⟩ := ha; let ⟨u, b1, b2⟩ := h2
  ⟨_, pe_ck (E := WE S.W) C.ok hr hg C.gm C.kp hb (fun σ => passAt tk σ) a1 b1 hdb he hall hks hpl, fun H0 G0 σ H G ρ Q q w => by
    refine a2 H0 G0 σ H G ρ _ q (Wp.imp (Wp.bind w) (fun ds wd vs H1 G1 s1 r1 => ?_) fun _ z => z)
    refine b2 H0 G0 σ H1 G1 ρ _ (q.step s1) (Wp.imp (Wp.bind wd) (fun d wd2 v H2 G2 s2 r2 => ?_) fun er z => z.step s1)
    have r3 : RpL G2 (vs ++ [v]) (ds ++ [d]) := RpL.append (RpL.mono s2.gg r1) (.cons r2 .nil)
    exact ⟨v, rfl, sp_call (s1.trans s2) r3 (r3.length.trans (C.args wd2)) wd2⟩⟩
theorem xcallE (C : Df S.X.prog S.X.w S.X.K S.X.mg S.X.base S.ca S.cf k x a fd ps .e f) (hb : Binds S.X.K fd ps []) (hr : Room k S.X.A) (tk : Takes S.X S.W) (ha : XA S .e (e :: es) g) (hg : Gl S.X x := by rfl)
    (hdb : (x == ("__debug__" : Str)) = false := by decide) (he : starEach (e :: es) S.X.env = (false, eval e S.X.env) :: starEach es S.X.env := by rfl) (hpl : (backTo pos (starEach es S.X.env)).any (·.1) = false := by rfl) :
    XX S .e (.Call (.Name x p) (e :: es) [] pos) (fCall f g) := xcall (kd := .e) C hb hr tk ha hg hdb he hpl
theorem xcallO (C : Df S.X.prog S.X.w S.X.K S.X.mg S.X.base S.ca S.cf k x a fd ps .o f) (hb : Binds S.X.K fd ps []) (hr : Room k S.X.A) (tk : Takes S.X S.W) (ha : XA S .e (e :: es) g) (hg : Gl S.X x := by rfl)
    (hdb : (x == ("__debug__" : Str)) = false := by decide) (he : starEach (e :: es) S.X.env = (false, eval e S.X.env) :: starEach es S.X.env := by rfl) (hpl : (backTo pos (starEach es S.X.env)).any (·.1) = false := by rfl) :
    XX S .o (.Call (.Name x p) (e :: es) [] pos) (fCall f g) := xcall (kd := .o) C hb hr tk ha hg hdb he hpl
theorem xcallDE {d : D} (C : Df S.X.prog S.X.w S.X.K S.X.mg S.X.base S.ca S.cf k x a fd ps .e f) (hb : BindD S.X.K fd ps d) (hr : Room k S.X.A) (tk : Takes S.X S.W) (ha : XA S .e (e :: es) g) (hg : Gl S.X x := by rfl)
    (hdb : (x == ("__debug__" : Str)) = false := by decide) (he : starEach (e :: es) S.X.env = (false, eval e S.X.env) :: starEach es S.X.env := by rfl) (hpl : (backTo pos (starEach es S.X.env)).any (·.1) = false := by rfl) :
    XX S .e (.Call (.Name x p) (e :: es) [] pos) (fCallD f d g) := xcallD (kd := .e) C hb hr tk ha hg hdb he hpl
theorem xcallDO {d : D} (C : Df S.X.prog S.X.w S.X.K S.X.mg S.X.base S.ca S.cf k x a fd ps .o f) (hb : BindD S.X.K fd ps d) (hr : Room k S.X.A) (tk : Takes S.X S.W) (ha : XA S .e (e :: es) g) (hg : Gl S.X x := by rfl)
    (hdb : (x == ("__debug__" : Str)) = false := by decide) (he : starEach (e :: es) S.X.env = (false, eval e S.X.env) :: starEach es S.X.env := by rfl) (hpl : (backTo pos (starEach es S.X.env)).any (·.1) = false := by rfl) :
    XX S .o (.Call (.Name x p) (e :: es) [] pos) (fCallD f d g) := xcallD (kd := .o) C hb hr tk ha hg hdb he hpl
theorem xcallKE (C : Df S.X.prog S.X.w S.X.K S.X.mg S.X.base S.ca S.cf k x a fd ps .e f) (hb : BindK S.X.K fd ps y) (hr : Room k S.X.A) (tk : Takes S.X S.W) (ha : XA S .e (e :: es) g) (h2 : XX S .e e2 h) (hg : Gl S.X x := by rfl)
    (hdb : (x == ("__debug__" : Str)) = false := by decide) (he : starEach (e :: es) S.X.env = (false, eval e S.X.env) :: starEach es S.X.env := by rfl)
    (hall : (backToKw pos (keywordEach [⟨some y, e2, kpos⟩] S.X.env)).all (·.1.isSome) = true := by rfl) (hks : (backToKw pos (keywordEach [⟨some y, e2, kpos⟩] S.X.env)).filterMap (·.1) = [y] := by rfl)
    (hpl : ((backTo pos (starEach (e :: es) S.X.env)).any (·.1) || (backToKw pos (keywordEach [⟨some y, e2, kpos⟩] S.X.env)).any (·.1.isNone)) = false := by rfl) :
    XX S .e (.Call (.Name x p) (e :: es) [⟨some y, e2, kpos⟩] pos) (fCallK f g h) := xcallK (kd := .e) C hb hr tk ha h2 hg hdb he hall hks hpl
theorem xcallKO (C : Df S.X.prog S.X.w S.X.K S.X.mg S.X.base S.ca S.cf k x a fd ps .o f) (hb : BindK S.X.K fd ps y) (hr : Room k S.X.A) (tk : Takes S.X S.W) (ha : XA S .e (e :: es) g) (h2 : XX S .e e2 h) (hg : Gl S.X x := by rfl)
    (hdb : (x == ("__debug__" : Str)) = false := by decide) (he : starEach (e :: es) S.X.env = (false, eval e S.X.env) :: starEach es S.X.env := by rfl)
    (hall : (backToKw pos (keywordEach [⟨some y, e2, kpos⟩] S.X.env)).all (·.1.isSome) = true := by rfl) (hks : (backToKw pos (keywordEach [⟨some y, e2, kpos⟩] S.X.env)).filterMap (·.1) = [y] := by rfl)
    (hpl : ((backTo pos (starEach (e :: es) S.X.env)).any (·.1) || (backToKw pos (keywordEach [⟨some y, e2, kpos⟩] S.X.env)).any (·.1.isNone)) = false := by rfl) :
    XX S .o (.Call (.Name x p) (e :: es) [⟨some y, e2, kpos⟩] pos) (fCallK f g h) := xcallK (kd := .o) C hb hr tk ha h2 hg hdb he hall hks hpl
theorem xcallW {sh : Sh} (C : Df S.X.prog S.X.w S.X.K S.X.mg S.X.base S.ca S.cf k x a fd ps (.w sh) f) (hb : Binds S.X.K fd ps []) (hr : Room k S.X.A) (tk : Takes S.X S.W) (ha : XA S .e (e :: es) g) (hg : Gl S.X x := by rfl)
    (hdb : (x == ("__debug__" : Str)) = false := by decide) (he : starEach (e :: es) S.X.env = (false, eval e S.X.env) :: starEach es S.X.env := by rfl) (hpl : (backTo pos (starEach es S.X.env)).any (·.1) = false := by rfl) :
    XX S (.w sh) (.Call (.Name x p) (e :: es) [] pos) (fCall f g) := xcall (kd := .w sh) C hb hr tk ha hg hdb he hpl
theorem xcallDW {sh : Sh} {d : D} (C : Df S.X.prog S.X.w S.X.K S.X.mg S.X.base S.ca S.cf k x a fd ps (.w sh) f) (hb : BindD S.X.K fd ps d) (hr : Room k S.X.A) (tk : Takes S.X S.W) (ha : XA S .e (e :: es) g) (hg : Gl S.X x := by rfl)
    (hdb : (x == ("__debug__" : Str)) = false := by decide) (he : starEach (e :: es) S.X.env = (false, eval e S.X.env) :: starEach es S.X.env := by rfl) (hpl : (backTo pos (starEach es S.X.env)).any (·.1) = false := by rfl) :
    XX S (.w sh) (.Call (.Name x p) (e :: es) [] pos) (fCallD f d g) := xcallD (kd := .w sh) C hb hr tk ha hg hdb he hpl
theorem xcallKW {sh : Sh} (C : Df S.X.prog S.X.w S.X.K S.X.mg S.X.base S.ca S.cf k x a fd ps (.w sh) f) (hb : BindK S.X.K fd ps y) (hr : Room k S.X.A) (tk : Takes S.X S.W) (ha : XA S .e (e :: es) g) (h2 : XX S .e e2 h) (hg : Gl S.X x := by rfl)
    (hdb : (x == ("__debug__" : Str)) = false := by decide) (he : starEach (e :: es) S.X.env = (false, eval e S.X.env) :: starEach es S.X.env := by rfl)
    (hall : (backToKw pos (keywordEach [⟨some y, e2, kpos⟩] S.X.env)).all (·.1.isSome) = true := by rfl) (hks : (backToKw pos (keywordEach [⟨some y, e2, kpos⟩] S.X.env)).filterMap (·.1) = [y] := by rfl)
    (hpl : ((backTo pos (starEach (e :: es) S.X.env)).any (·.1) || (backToKw pos (keywordEach [⟨some y, e2, kpos⟩] S.X.env)).any (·.1.isNone)) = false := by rfl) :
    XX S (.w sh) (.Call (.Name x p) (e :: es) [⟨some y, e2, kpos⟩] pos) (fCallK f g h) := xcallK (kd := .w sh) C hb hr tk ha h2 hg hdb he hall hks hpl
end
end Ct

/-! own errors over ValueError whose __init__ says super().__init__(text) and keeps its arguments -/
namespace Ct
open PySem PySem.W PySem.Calls PyProof.Rows PySem.HandSPX

def iArgs (ps : List (Str × Pos)) : Arguments := { posonlyargs := [], args := ps.map fun p => { arg := p.1, annotation := none, pos := p.2 }, vararg := none, kwonlyargs := [], kw_defaults := [], kwarg := none, defaults := [] }
def iSup (msg : Str) (j : Nat) (p0 p1 p2 p3 p4 p5 : Pos) : Stmt := .Expr (.Call (.Attribute (.Call (.Name "super" p0) [] [] p1) "__init__" p2) [.Constant (.str msg) j p3] [] p4) p5
def iAsg (f : Str) (q1 q2 q3 q4 : Pos) : Stmt := .Assign [.Attribute (.Name "self" q1) f q2] (.Name f q3) q4
def iScope (ps : List Str) : Scope := { kind := .function, names := ps.map (fun p => (p, NameKind.local)) ++ [(PySem.Str.ofString "__class__", .free), (PySem.Str.ofString "super", .globalImplicit)], isGenerator := false, isCoroutine := false, more := [] }
/-- what the written part says of such a class C (named x, attributes fs) and its __init__ at fI -/
structure ExTxt (prog : Program) (K : Frag) (mg : Str → Option Value) (C fI : Addr) (x : Str) (fs : List Str) (body : List Stmt) : Prop where
  gC : mg x = some (.ref C)
  cls : ∃ nm q N bs bm sn sub ab col dd k0 k1 k2 k3 k5, K.lookup C = some (excClassObj nm q C N bs bm true sn sub ab col dd k0 k1 k2 k3 k5 "ValueError.__new__") ∧ refsVE bm = true
  sa : findIn K (.ref C) "__setattr__" = some (some (.builtin "object.__setattr__"))
  ga : findIn K (.ref C) "__getattribute__" = some (some (.builtin "BaseException.__getattribute__"))
  gg : findIn K (.ref C) "__getattr__" = some none
  noF : ∀ f ∈ fs, findIn K (.ref C) f = some none
  iC : findIn K (.ref C) "__init__" = some (some (.ref fI))
  tC : typeIn K (.ref fI) = some (.type "function")
  kC : keepIn K (.ref C) = true
  exC : subIn K (.ref C) (.type "BaseException") = some true
  veC : subIn K (.ref C) (.type "ValueError") = some true
  tyC : typeIn K (.ref C) = some (.type "type")
  hdC : hasDictIn K C = true
  mC : mroIn K C (.ref C) = some true
  supI : ks_superIn K C C "__init__" = some (some (.builtin "ValueError.__init__"))
  opq : nsIn K cStatics "thirdparty.any" = some none
  supG : mg "super" = none
  top : (prog.main.scope.names.lookup ("super" : Str)).isSome = false
  fn : ∃ (oc : Value) (od : Option Addr) (qual : Str) (ps : List Pos) (dV kV doc pm : Value) (an : Option Addr) (cda : Addr) (ct : Value) (cc : Addr) (osl : Array (Option Value)) (ccl cl : Value) (cdd cld : Option Addr) (vs : Array Value) (ccs csl : Array (Option Value)) (file : Str) (tf : Tok),
    ps.length = fs.length + 1 ∧ K.lookup fI = some ⟨oc, od, .func (ksFn "__init__" qual (iArgs ((("self" : Str) :: fs).zip ps)) body (iScope (("self" : Str) :: fs)) .none kV doc pm an (.ref cda) ct cc), osl⟩ ∧ codeIn K (.ref cda) qual = true ∧
    K.lookup cda = some ⟨ccl, cdd, .fields vs, ccs⟩ ∧ vs[2]? = some (.str file tf) ∧ ((prog.main.file : Str) == file) = true ∧ K.lookup cc = some ⟨cl, cld, .cell (some (.ref C)), csl⟩

section
variable {prog : Program} {w : World} {A : Around} {E : Value → Shared → Prop} {h : Heap} {g : Array GenState} {d : Drawn} {t : Nat} {os : OsState} {K : Frag}
/-- the bound __init__ is called: the record's args are laid anew -/
theorem mw_call {nm q : Str} {C N u e t0 : Addr} {bs bm : List Value} {hdct : Bool} {sn : List Str} {sub : List Value} {ab : Bool} {col : Option Bool} {dd : Option Addr} {k0 k1 k2 k3 k5 : Option Value} {rest : List Value} {Q : Value → Shared → Prop}
    (ec : h.get? C = some (excClassObj nm q C N bs bm hdct sn sub ab col dd k0 k1 k2 k3 k5 "ValueError.__new__")) (ee : h.get? e = some (excO C t0)) (eu : h.get? u = some (kxs_mw "ValueError.__init__" e)) (hr : rest.length ≤ sizeLine)
    (fin : ∀ h' t1, (∀ b o, b ≠ e → h.get? b = some o → h'.get? b = some o) → h'.get? e = some (excO C t1) → Q .none ⟨h', g, d, t, os⟩) :
    wpAny (model prog w) A (call (.ref u) rest) Q E ⟨h, g, d, t, os⟩ := by
  have FB := PySem.F.excBase_ValueError
  have isW : (Value.type "method-wrapper" == Value.type "method" || Value.type "method-wrapper" == Value.type "builtin_function_or_method" || Value.type "method-wrapper" == Value.type "method-wrapper") = true := by decide
  apply wpAny_call
  apply codeAny_of_tree
  show wpAny _ A.in1 (callAny (.ref u) ⟨rest, []⟩) _ _ _
  unfold callAny
  apply wpAny_bind
  refine wpAny_load eu ?_
  dsimp only [kxs_mw]
  refine KFB.if_so isW ?_
  apply wpAny_bind
  refine check_bound_init FB.toExcCallFacts ec ee rfl ?_
  refine wpAny_pure ?_
  refine ⟨Code.quiet_builtin _ (by decide +kernel), codeAny_builtin FB.initEntry ?_⟩
  rw [Around.under_plainId FB.init.plain _]
  refine exc_init_tree (cls := .ref C) (t0 := t0) (dv := none) (c2 := .none) (c3 := .none) (b4 := .bool false) ee hr fun h' k1 k2 _ => ?_
  exact fin h' _ k1 k2
/-- names of the frame -/
theorem nm_local {M : Model} {s : Shared} {env : Env} {m : Str → Option Value} {x : Str} {pos : Pos} {v : Value} {Q : Value → Shared → Prop} (hn : s.heap.Ns env.locals m) (hv : m x = some v) (q : Q v s) (hk : env.scope.kind = .function) (hl : env.kindOf x = some .local) (hd : (x == ("__debug__" : Str)) = false) :
    wpAny M A (eval (.Name x pos) env) Q E s := wpAny_Name (wpAny_loadName_local hk hl hn hv q) hd
/-- what __init__ leaves of a fresh exception at x, m its fields -/
structure IEnd (h h' : Heap) (x C : Addr) (fm : Str → Option Value) : Prop where
  keep : ∀ b o, b ≠ x → h.get? b = some o → h'.get? b = some o
  ex : ∃ dx t1, h'.get? x = some { cls := .ref C, dict := some dx, data := .fields #[.ref t1, .none, .none, .none, .bool false, .none] } ∧ h.objs.size ≤ dx ∧ dx ≠ x ∧ h'.Ns1 dx fm
/-- super().__init__(text), ahead of the rest of the body -/
theorem sup_step {body rest : List Stmt} {qual : Str} {L fI cda cc x C t0 : Addr} {m mg : Str → Option Value} {fd : FuncData} {ar : Arg} {msg : Str} {j : Nat} {p0 p1 p2 p3 p4 p5 : Pos} {vs : Array Value} {file : Str} {tf : Tok} {oc ccl cl : Value} {od cdd cld : Option Addr} {osl ccs csl : Array (Option Value)} {Q : Flow → Shared → Prop} {fs ps : List Str} {nmC : Str} {fb : List Stmt}
    (T : ExTxt prog K mg C fI nmC fs fb) (X : K.In h) (hn : h.Ns L m) (hG : h.Ns mainGlobals mg) (hB : ∃ mb, h.Ns builtinsNs mb ∧ ∀ y : Str, y ≠ "__name__" → mb y = bootBuiltins y)
    (hf : K.lookup fI = some ⟨oc, od, .func fd, osl⟩) (hp : (fd.params.posonlyargs ++ fd.params.args).head? = some ar) (hv : m ar.arg = some (.ref x)) (hx : h.get? x = some (excO C t0))
    (hcode : K.lookup cda = some ⟨ccl, cdd, .fields vs, ccs⟩) (hvs : vs[2]? = some (.str file tf)) (hfile : ((prog.main.file : Str) == file) = true) (hcell : K.lookup cc = some ⟨cl, cld, .cell (some (.ref C)), csl⟩)
    (hks : (iScope ps).names.lookup ("super" : Str) = some .globalImplicit) (hkc : (iScope ps).names.lookup ("__class__" : Str) = some .free) (hka : (iScope ps).names.lookup ar.arg = some .local) (hx0 : K.lookup x = none)
    (he : ∃ pl, eval (.Call (.Attribute (.Call (.Name "super" p0) [] [] p1) "__init__" p2) [.Constant (.str msg) j p3] [] p4) (ksEnv qual (iScope ps) L fI (.ref cda) cc) = (do
      let ov ← attributeBase (.Call (.Name "super" p0) [] [] p1) "__init__" (ksEnv qual (iScope ps) L fI (.ref cda) cc) (eval (.Call (.Name "super" p0) [] [] p1) (ksEnv qual (iScope ps) L fI (.ref cda) cc))
      standAt p2.atName
      let (f, first) ← holding [ov] (getMethod ov "__init__" pl)
      callWith p4 f first (backTo p4 (starEach [.Constant (.str msg) j p3] (ksEnv qual (iScope ps) L fI (.ref cda) cc))) []))
    (q : ∀ h' tk t1, (∀ b o, b ≠ x → h.get? b = some o → h'.get? b = some o) → h'.get? x = some (excO C t1) → wpAny (model prog w) A (execs rest (ksEnv qual (iScope ps) L fI (.ref cda) cc)) Q E ⟨h', g, d, tk, os⟩) :
    _root_.PySem.wpAt (model prog w) A (.func body (ksEnv qual (iScope ps) L fI (.ref cda) cc)) (execs (iSup msg j p0 p1 p2 p3 p4 p5 :: rest) (ksEnv qual (iScope ps) L fI (.ref cda) cc)) Q E ⟨h, g, d, t, os⟩ := by
  obtain ⟨nm, q', N, bs, bm, sn, sub, ab, col, dd, k0, k1, k2, k3, k5, eC, ebm⟩ := T.cls
  have hcl : clsIn K C = some { name := nm, bases := bs, mro := .ref C :: bm, ns := N, qualname := q', hasDict := true, slotNames := sn, subclasses := sub, abstract := ab, collection := col, hasDel := false } := by unfold clsIn; rw [eC] <;> rfl
  have xneC : x ≠ C := fun z => by rw [z, eC] at hx0; cases hx0
  obtain ⟨mb, nb, eb⟩ := hB
  obtain ⟨oD, hD1, hD2⟩ : ∃ oD, h.get? C = some oD ∧ oD.data = .cls { name := nm, bases := bs, mro := .ref C :: bm, ns := N, qualname := q', hasDict := true, slotNames := sn, subclasses := sub, abstract := ab, collection := col, hasDel := false } := ⟨_, X _ _ eC, rfl⟩
  obtain ⟨pl, he⟩ := he
  refine ks_wpAt_execs_cons (ks_wpAt_Expr_any (ks_wpAt_MethodCall ?_ he) (by rfl) (by rfl))
  refine ks_wpAt_super_base (env := ksEnv qual (iScope ps) L fI (.ref cda) cc) hks hkc (by decide) rfl (X _ _ hf) rfl hp rfl (X _ _ hcode) rfl hvs hfile T.top ?_
  refine ks_loadName_global rfl hks (loadGlobal_builtin (env := ksEnv qual (iScope ps) L fI (.ref cda) cc) hG T.supG nb ((eb _ (by decide)).trans (by first | boot_by_name | rfl | kernel_rfl)) ⟨rfl, ?_⟩)
  refine wpAny_loadName_free rfl hkc rfl ⟨_, X _ _ hcell, rfl⟩ ?_
  refine wpAny_loadName_local rfl hka hn hv ?_
  refine ks_wpAny_isType_cls hD1 hD2 ⟨rfl, ?_⟩
  refine ks_wpAny_call_super hD1 hD2 hx rfl (fun c z => by cases z) (looks_mroIn X T.mC) (fun h2 e2 k2 => ?_)
  have X2 : K.In h2 := X.keeps k2
  have I2 : InstAt h2 x (excO C t0) C none := ⟨k2 _ _ hx, rfl, rfl, trivial⟩
  have sI := T.supI
  unfold ks_superIn at sI
  rw [hcl] at sI
  refine kxs_getMethod kxs_ValueError e2 (looks_opaque X2 T.opq) (l₀ := Value.ref C :: bm) (fun A Q E s k z => wpAny_bind ((looks_clsIn X2 hcl) A _ E s k (wpAny_pure z))) rfl X2 sI (I2.type.andThen (looks_subIn X2 T.veC)) xneC (by decide) ?_
  have k3 : ∀ b o, h2.get? b = some o → (h2.push (kxs_mw "ValueError.__init__" x)).get? b = some o := fun b o z => Heap.get?_push_of_some _ z
  have e3 : (h2.push (kxs_mw "ValueError.__init__" x)).get? h2.objs.size = some (kxs_mw "ValueError.__init__" x) := Heap.get?_push_size _ rfl
  refine kxs_callWith (i := "ValueError.__init__") (x := x) (by rfl) ?_
  refine evalArgs_plain ?_
  refine args_cons (Calls.Constant_str ?_) rfl
  refine args_nil ?_
  refine ⟨e3, mw_call (k3 _ _ (X2 _ _ eC)) (k3 _ _ (k2 _ _ hx)) e3 (by show 1 ≤ sizeLine; decide) fun h4 t1 k4 e4 => ?_⟩
  exact wpAt_of_wpAny (q h4 _ t1 (fun b o n z => k4 b o n (k3 b o (k2 b o z))) e4)
/-- the first self.f = f: the record gets its dict -/
theorem asg_new {qual : Str} {L fI cda cc x C t0 : Addr} {m mg : Str → Option Value} {v : Value} {f : Str} {q1 q2 q3 q4 : Pos} {Q : Flow → Shared → Prop} {fs ps : List Str} {nmC : Str} {fb rest : List Stmt}
    (T : ExTxt prog K mg C fI nmC fs fb) (X : K.In h) (hf : f ∈ fs) (hn : h.Ns L m) (hs : m "self" = some (.ref x)) (hv : m f = some v) (hx : h.get? x = some (excO C t0))
    (k1 : (iScope ps).names.lookup ("self" : Str) = some .local) (k2 : (iScope ps).names.lookup f = some .local) (hd : (f == ("__debug__" : Str)) = false)
    (hsw : swapsWith (.Name f q3) (some (.Attribute (.Name "self" q1) f q2)) q4.line (ksEnv qual (iScope ps) L fI (.ref cda) cc) = pure false)
    (q : ∀ h' tk dx, (∀ b o, b ≠ x → h.get? b = some o → h'.get? b = some o) → h.objs.size ≤ dx → dx ≠ x → h'.get? x = some { cls := .ref C, dict := some dx, data := .fields #[.ref t0, .none, .none, .none, .bool false, .none] } → h'.Ns1 dx (fun y => if y = f then some v else none) →
      wpAny (model prog w) A (execs rest (ksEnv qual (iScope ps) L fI (.ref cda) cc)) Q E ⟨h', g, d, tk, os⟩) :
    wpAny (model prog w) A (execs (iAsg f q1 q2 q3 q4 :: rest) (ksEnv qual (iScope ps) L fI (.ref cda) cc)) Q E ⟨h, g, d, t, os⟩ := by
  obtain ⟨nm, q', N, bs, bm, sn, sub, ab, col, dd, c0, c1, c2, c3, c5, eC, ebm⟩ := T.cls
  have hcl : clsIn K C = some { name := nm, bases := bs, mro := .ref C :: bm, ns := N, qualname := q', hasDict := true, slotNames := sn, subclasses := sub, abstract := ab, collection := col, hasDel := false } := by unfold clsIn; rw [eC] <;> rfl
  refine wpAny_execs_cons (plainObj_wpAny_Assign_Attribute ?_ hsw)
  refine nm_local (env := ksEnv qual (iScope ps) L fI (.ref cda) cc) hn hv ?_ rfl k2 hd
  refine nm_local (env := ksEnv qual (iScope ps) L fI (.ref cda) cc) hn hs ?_ rfl k1 (by decide)
  refine set_plain X (ox := excO C t0) (od := none) ⟨hx, rfl, rfl, trivial⟩ T.sa ?_
  exact exc_osa X hx hcl (show refsVE (.ref C :: bm) = true from ebm) rfl (T.noF f hf) fun h3 tk3 dx k3 dn dne hx3 hn3 => q h3 tk3 dx k3 dn dne hx3 hn3
/-- a further one -/
theorem asg_old {qual : Str} {L fI cda cc x C dx : Addr} {fv : Array Value} {m mg m0 : Str → Option Value} {nl : List Str} {v : Value} {f : Str} {q1 q2 q3 q4 : Pos} {Q : Flow → Shared → Prop} {fs ps : List Str} {nmC : Str} {fb rest : List Stmt}
    (T : ExTxt prog K mg C fI nmC fs fb) (X : K.In h) (hf : f ∈ fs) (hn : h.Ns L m) (hs : m "self" = some (.ref x)) (hv : m f = some v) (hx : h.get? x = some { cls := .ref C, dict := some dx, data := .fields fv }) (hm0 : h.Ns1 dx m0) (hw : Within m0 nl) (hz : nl.length ≤ 1000)
    (k1 : (iScope ps).names.lookup ("self" : Str) = some .local) (k2 : (iScope ps).names.lookup f = some .local) (hd : (f == ("__debug__" : Str)) = false)
    (hsw : swapsWith (.Name f q3) (some (.Attribute (.Name "self" q1) f q2)) q4.line (ksEnv qual (iScope ps) L fI (.ref cda) cc) = pure false)
    (q : ∀ h' tk, (∀ b o, b ≠ dx → h.get? b = some o → h'.get? b = some o) → h'.Ns1 dx (fun y => if y = f then some v else m0 y) →
      wpAny (model prog w) A (execs rest (ksEnv qual (iScope ps) L fI (.ref cda) cc)) Q E ⟨h', g, d, tk, os⟩) :
    wpAny (model prog w) A (execs (iAsg f q1 q2 q3 q4 :: rest) (ksEnv qual (iScope ps) L fI (.ref cda) cc)) Q E ⟨h, g, d, t, os⟩ := by
  obtain ⟨nm, q', N, bs, bm, sn, sub, ab, col, dd, c0, c1, c2, c3, c5, eC, ebm⟩ := T.cls
  have hcl : clsIn K C = some { name := nm, bases := bs, mro := .ref C :: bm, ns := N, qualname := q', hasDict := true, slotNames := sn, subclasses := sub, abstract := ab, collection := col, hasDel := false } := by unfold clsIn; rw [eC] <;> rfl
  obtain ⟨oD, esD, epD, hoD, hdD, _⟩ := hm0.count hw
  refine wpAny_execs_cons (plainObj_wpAny_Assign_Attribute ?_ hsw)
  refine nm_local (env := ksEnv qual (iScope ps) L fI (.ref cda) cc) hn hv ?_ rfl k2 hd
  refine nm_local (env := ksEnv qual (iScope ps) L fI (.ref cda) cc) hn hs ?_ rfl k1 (by decide)
  refine set_plain X (ox := { cls := .ref C, dict := some dx, data := .fields fv }) (od := some oD) ⟨hx, rfl, rfl, hoD⟩ T.sa ?_
  exact PySem.OEX.osa_old X hx hm0 hw hz hcl (show refsVE (.ref C :: bm) = true from ebm) rfl (T.noF f hf) fun h3 tk3 k3 hn3 => q h3 tk3 k3 hn3
end
end Ct

namespace Ct
open PySem PySem.W PySem.Calls PyProof.Rows PySem.HandSPX

/-- what the text's places decide: super()'s call, the stores -/
def SupOk (ps : List Str) (fI : Addr) (msg : Str) (j : Nat) (p0 p1 p2 p3 p4 : Pos) : Prop := ∀ (qual : Str) (L cda cc : Addr), ∃ pl, eval (.Call (.Attribute (.Call (.Name "super" p0) [] [] p1) "__init__" p2) [.Constant (.str msg) j p3] [] p4) (ksEnv qual (iScope ps) L fI (.ref cda) cc) = (do
      let ov ← attributeBase (.Call (.Name "super" p0) [] [] p1) "__init__" (ksEnv qual (iScope ps) L fI (.ref cda) cc) (eval (.Call (.Name "super" p0) [] [] p1) (ksEnv qual (iScope ps) L fI (.ref cda) cc))
      standAt p2.atName
      let (f, first) ← holding [ov] (getMethod ov "__init__" pl)
      callWith p4 f first (backTo p4 (starEach [.Constant (.str msg) j p3] (ksEnv qual (iScope ps) L fI (.ref cda) cc))) [])
def AsgOk (ps : List Str) (fI : Addr) (f : Str) (q1 q2 q3 q4 : Pos) : Prop := ∀ (qual : Str) (L cda cc : Addr), swapsWith (.Name f q3) (some (.Attribute (.Name "self" q1) f q2)) q4.line (ksEnv qual (iScope ps) L fI (.ref cda) cc) = pure false
def BndOk (fs : List Str) (body : List Stmt) : Prop := ∀ (s : Shared) (qual : Str) (ps : List Pos) (dV kV doc pm : Value) (an : Option Addr) (cda : Addr) (ct : Value) (cc : Addr) (us : List Value), ps.length = fs.length + 1 → us.length = fs.length + 1 →
  BindsTo s (ksFn "__init__" qual (iArgs ((("self" : Str) :: fs).zip ps)) body (iScope (("self" : Str) :: fs)) .none kV doc pm an (.ref cda) ct cc) ⟨us, []⟩ ((("self" : Str) :: fs).zip us)
structure ScpOk (fs : List Str) : Prop where
  l1 : (iScope ("self" :: fs)).names.lookup ("super" : Str) = some .globalImplicit
  l2 : (iScope ("self" :: fs)).names.lookup ("__class__" : Str) = some .free
  l3 : ∀ f ∈ fs, (iScope ("self" :: fs)).names.lookup f = some .local
  l4 : (iScope ("self" :: fs)).names.lookup ("self" : Str) = some .local
  cells : ∀ y ∈ (iScope ("self" :: fs)).names, y.2 ≠ .cell
  nself : ∀ f ∈ fs, (("self" : Str) == f) = false
  ndbg : ∀ f ∈ fs, (f == ("__debug__" : Str)) = false
/-- the field's map of the arguments, the later ones on top -/
def fmap : List Str → List Value → Str → Option Value
  | f :: fs, v :: vs => fun y => if y = f then some v else fmap fs vs y
  | _, _ => fun _ => none

section
variable {prog : Program} {w : World} {A : Around} {h : Heap} {g : Array GenState} {d : Drawn} {t : Nat} {os : OsState} {K : Frag} {mg : Str → Option Value} {C fI x t0 : Addr} {nm f f2 msg : Str} {v v2 : Value} {R : Result → Shared → Prop} {j : Nat} {p0 p1 p2 p3 p4 p5 q1 q2 q3 q4 r1 r2 r3 r4 : Pos}
theorem keep_in {h' : Heap} {x : Addr} (X : K.In h) (hx : K.lookup x = none) (k : ∀ b o, b ≠ x → h.get? b = some o → h'.get? b = some o) : K.In h' := fun a o e => k a o (fun z => by rw [z, hx] at e; cases e) (X a o e)
theorem ns_keep {h' : Heap} {L x : Addr} {m : Str → Option Value} (hn : h.Ns L m) (ne : L ≠ x) (k : ∀ b o, b ≠ x → h.get? b = some o → h'.get? b = some o) : h'.Ns L m := by
  obtain ⟨o, es, ep, e, r⟩ := hn
  exact ⟨o, es, ep, k _ _ ne e, r⟩
theorem init1 (T : ExTxt prog K mg C fI nm [f] [iSup msg j p0 p1 p2 p3 p4 p5, iAsg f q1 q2 q3 q4]) (so : SupOk ["self", f] fI msg j p0 p1 p2 p3 p4) (ao : AsgOk ["self", f] fI f q1 q2 q3 q4) (sc : ScpOk [f]) (bo : BndOk [f] [iSup msg j p0 p1 p2 p3 p4 p5, iAsg f q1 q2 q3 q4])
    (X : K.In h) (hG : h.Ns mainGlobals mg) (hB : ∃ mb, h.Ns builtinsNs mb ∧ ∀ y : Str, y ≠ "__name__" → mb y = bootBuiltins y) (lim : h.NoLimit) (hx : h.get? x = some (excO C t0)) (hx0 : K.lookup x = none) (room : A.depth < recursionLimit)
    (q : ∀ h' tk, IEnd h h' x C (fmap [f] [v]) → R (.ok (.ret .none)) ⟨h', g, d, tk, os⟩) :
    codeAny (model prog w) A (.call (.ref fI) ⟨[.ref x, v], []⟩) R ⟨h, g, d, t, os⟩ := by
  obtain ⟨oc, od, qual, ps, dV, kV, doc, pm, an, cda, ct, cc, osl, ccl, cl, cdd, cld, vs, ccs, csl, file, tf, hps, lk, hcd, lcd, hvs, hfile, lcc⟩ := T.fn
  match ps, hps with
  | [a, b], _ =>
    have bnd := bo ⟨h, g, d, t, os⟩ qual [a, b] .none kV doc pm an cda ct cc [.ref x, v] rfl rfl
    refine ks_codeAny_call_defAt (fd := ksFn "__init__" qual (iArgs ((("self" : Str) :: [f]).zip [a, b])) [iSup msg j p0 p1 p2 p3 p4 p5, iAsg f q1 q2 q3 q4] (iScope (("self" : Str) :: [f])) .none kV doc pm an (.ref cda) ct cc) (body := [iSup msg j p0 p1 p2 p3 p4 p5, iAsg f q1 q2 q3 q4]) room (X _ _ lk) rfl lim (codeRec_of X hcd) rfl bnd sc.cells ?_ (fun h1 hns k1 => ?_)
    · intro y hy
      rcases List.mem_cons.mp hy with rfl | hy
      · exact sc.l4
      · rcases List.mem_cons.mp hy with rfl | hy
        · exact sc.l3 f List.mem_cons_self
        · cases hy
    · have X1 : K.In h1 := X.keeps k1
      have hLx : h.objs.size ≠ x := Nat.ne_of_gt (Heap.lt_size hx)
      have nf := sc.nself f List.mem_cons_self
      have ms : (fun y => ([(("self" : Str), Value.ref x), (f, v)] : List (Str × Value)).reverse.lookup y) "self" = some (.ref x) := by
        show List.lookup ("self" : Str) [(f, v), ("self", .ref x)] = _
        simp [List.lookup, nf]
      have mf : (fun y => ([(("self" : Str), Value.ref x), (f, v)] : List (Str × Value)).reverse.lookup y) f = some v := by
        show List.lookup f [(f, v), ("self", .ref x)] = _
        simp [List.lookup]
      refine sup_step (T := T) (fd := ksFn "__init__" qual (iArgs ((("self" : Str) :: [f]).zip [a, b])) [iSup msg j p0 p1 p2 p3 p4 p5, iAsg f q1 q2 q3 q4] (iScope (("self" : Str) :: [f])) .none kV doc pm an (.ref cda) ct cc) X1 hns (hG.keeps k1) (by obtain ⟨mb, n1, n2⟩ := hB; exact ⟨mb, n1.keeps k1, n2⟩) lk (ar := { arg := "self", annotation := none, pos := a }) rfl ms (k1 _ _ hx) lcd hvs hfile lcc sc.l1 sc.l2 sc.l4 hx0 (so qual h.objs.size cda cc) fun h2 tk2 t2 k2 e2 => ?_
      refine asg_new T (keep_in X1 hx0 k2) List.mem_cons_self (ns_keep hns hLx k2) ms mf e2 sc.l4 (sc.l3 f List.mem_cons_self) (sc.ndbg f List.mem_cons_self) (ao qual h.objs.size cda cc) fun h3 tk3 dx k3 dn dne e3 n3 => ?_
      refine wpAny_execs_nil (q h3 tk3 ⟨fun b o n z => k3 b o n (k2 b o n (k1 b o z)), dx, t2, e3, ?_, dne, n3⟩)
      have z1 : h.objs.size < h1.objs.size := hns.lt
      have z2 : h.objs.size < h2.objs.size := (ns_keep hns hLx k2).lt
      exact Nat.le_of_lt (Nat.lt_of_lt_of_le z2 dn)
theorem init2 (T : ExTxt prog K mg C fI nm [f, f2] [iSup msg j p0 p1 p2 p3 p4 p5, iAsg f q1 q2 q3 q4, iAsg f2 r1 r2 r3 r4]) (so : SupOk ["self", f, f2] fI msg j p0 p1 p2 p3 p4) (ao : AsgOk ["self", f, f2] fI f q1 q2 q3 q4) (ao2 : AsgOk ["self", f, f2] fI f2 r1 r2 r3 r4) (sc : ScpOk [f, f2]) (ff : (f == f2) = false) (bo : BndOk [f, f2] [iSup msg j p0 p1 p2 p3 p4 p5, iAsg f q1 q2 q3 q4, iAsg f2 r1 r2 r3 r4])
    (X : K.In h) (hG : h.Ns mainGlobals mg) (hB : ∃ mb, h.Ns builtinsNs mb ∧ ∀ y : Str, y ≠ "__name__" → mb y = bootBuiltins y) (lim : h.NoLimit) (hx : h.get? x = some (excO C t0)) (hx0 : K.lookup x = none) (room : A.depth < recursionLimit)
    (q : ∀ h' tk, IEnd h h' x C (fmap [f, f2] [v, v2]) → R (.ok (.ret .none)) ⟨h', g, d, tk, os⟩) :
    codeAny (model prog w) A (.call (.ref fI) ⟨[.ref x, v, v2], []⟩) R ⟨h, g, d, t, os⟩ := by
  obtain ⟨oc, od, qual, ps, dV, kV, doc, pm, an, cda, ct, cc, osl, ccl, cl, cdd, cld, vs, ccs, csl, file, tf, hps, lk, hcd, lcd, hvs, hfile, lcc⟩ := T.fn
  match ps, hps with
  | [a, b, c], _ =>
    have bnd := bo ⟨h, g, d, t, os⟩ qual [a, b, c] .none kV doc pm an cda ct cc [.ref x, v, v2] rfl rfl
    have m2 : f2 ∈ [f, f2] := List.mem_cons_of_mem _ List.mem_cons_self
    refine ks_codeAny_call_defAt (fd := ksFn "__init__" qual (iArgs ((("self" : Str) :: [f, f2]).zip [a, b, c])) [iSup msg j p0 p1 p2 p3 p4 p5, iAsg f q1 q2 q3 q4, iAsg f2 r1 r2 r3 r4] (iScope (("self" : Str) :: [f, f2])) .none kV doc pm an (.ref cda) ct cc) (body := [iSup msg j p0 p1 p2 p3 p4 p5, iAsg f q1 q2 q3 q4, iAsg f2 r1 r2 r3 r4]) room (X _ _ lk) rfl lim (codeRec_of X hcd) rfl bnd sc.cells ?_ (fun h1 hns k1 => ?_)
    · intro y hy
      rcases List.mem_cons.mp hy with rfl | hy
      · exact sc.l4
      · rcases List.mem_cons.mp hy with rfl | hy
        · exact sc.l3 f List.mem_cons_self
        · rcases List.mem_cons.mp hy with rfl | hy
          · exact sc.l3 f2 m2
          · cases hy
    · have X1 : K.In h1 := X.keeps k1
      have hLx : h.objs.size ≠ x := Nat.ne_of_gt (Heap.lt_size hx)
      have nf := sc.nself f List.mem_cons_self
      have nf2 := sc.nself f2 m2
      have ms : (fun y => ([(("self" : Str), Value.ref x), (f, v), (f2, v2)] : List (Str × Value)).reverse.lookup y) "self" = some (.ref x) := by
        show List.lookup ("self" : Str) [(f2, v2), (f, v), ("self", .ref x)] = _
        simp [List.lookup, nf, nf2]
      have mf : (fun y => ([(("self" : Str), Value.ref x), (f, v), (f2, v2)] : List (Str × Value)).reverse.lookup y) f = some v := by
        show List.lookup f [(f2, v2), (f, v), ("self", .ref x)] = _
        simp [List.lookup, ff]
      have mf2 : (fun y => ([(("self" : Str), Value.ref x), (f, v), (f2, v2)] : List (Str × Value)).reverse.lookup y) f2 = some v2 := by
        show List.lookup f2 [(f2, v2), (f, v), ("self", .ref x)] = _
        simp [List.lookup]
      refine sup_step (T := T) (fd := ksFn "__init__" qual (iArgs ((("self" : Str) :: [f, f2]).zip [a, b, c])) [iSup msg j p0 p1 p2 p3 p4 p5, iAsg f q1 q2 q3 q4, iAsg f2 r1 r2 r3 r4] (iScope (("self" : Str) :: [f, f2])) .none kV doc pm an (.ref cda) ct cc) X1 hns (hG.keeps k1) (by obtain ⟨mb, n1, n2⟩ := hB; exact ⟨mb, n1.keeps k1, n2⟩) lk (ar := { arg := "self", annotation := none, pos := a }) rfl ms (k1 _ _ hx) lcd hvs hfile lcc sc.l1 sc.l2 sc.l4 hx0 (so qual h.objs.size cda cc) fun h2 tk2 t2 k2 e2 => ?_
      have X2 := keep_in X1 hx0 k2
      have n2 := ns_keep hns hLx k2
      refine asg_new T X2 List.mem_cons_self n2 ms mf e2 sc.l4 (sc.l3 f List.mem_cons_self) (sc.ndbg f List.mem_cons_self) (ao qual h.objs.size cda cc) fun h3 tk3 dx k3 dn dne e3 n3 => ?_
      have X3 := keep_in X2 hx0 k3
      have n3' := ns_keep n2 hLx k3
      have z2 : h.objs.size < h2.objs.size := n2.lt
      have dL : h.objs.size ≠ dx := Nat.ne_of_lt (Nat.lt_of_lt_of_le z2 dn)
      refine asg_old T X3 m2 n3' ms mf2 e3 n3 (nl := [f]) (fun y hy => ?_) (by show 1 ≤ 1000; decide) sc.l4 (sc.l3 f2 m2) (sc.ndbg f2 m2) (ao2 qual h.objs.size cda cc) fun h4 tk4 k4 n4 => ?_
      · have hy : (if y = f then some v else none) ≠ none := hy
        by_cases a1 : y = f
        · rw [a1]; exact List.mem_cons_self
        · rw [if_neg a1] at hy; exact absurd rfl hy
      · refine wpAny_execs_nil (q h4 tk4 ⟨fun b o n z => k4 b o ?_ (k3 b o n (k2 b o n (k1 b o z))), dx, t2, k4 _ _ (Ne.symm dne) e3, Nat.le_of_lt (Nat.lt_of_lt_of_le z2 dn), dne, ?_⟩)
        · have := Heap.lt_size z
          intro e
          subst e
          exact absurd (Nat.lt_of_lt_of_le (Nat.lt_trans this z2) dn) (Nat.lt_irrefl _)
        · have e : (fun y => if y = f2 then some v2 else if y = f then some v else none) = fmap [f, f2] [v, v2] := by
            funext y
            show _ = if y = f then some v else if y = f2 then some v2 else none
            by_cases a1 : y = f2
            · have : ¬ y = f := by
                intro z
                rw [← z, ← a1] at ff
                simp at ff
              rw [if_pos a1, if_neg this, if_pos a1]
            · rw [if_neg a1, if_neg a1]
          rw [← e]
          exact n4
/-- a class is called: the record made, its __init__ run -/
structure EMade (h h' : Heap) (e C : Addr) (fm : Str → Option Value) : Prop where
  keep : ∀ b o, h.get? b = some o → h'.get? b = some o
  new : h.objs.size ≤ e
  ex : ∃ dx oe vs, h'.get? e = some oe ∧ oe.cls = .ref C ∧ oe.dict = some dx ∧ oe.data = .fields vs ∧ vs[1]? = some .none ∧ h.objs.size ≤ dx ∧ dx ≠ e ∧ h'.Ns1 dx fm
/-- what an __init__ does, as made1 wants it -/
def InitOk (prog : Program) (w : World) (K : Frag) (mg : Str → Option Value) (C fI : Addr) (n : Nat) (fs : List Str) : Prop := ∀ (A : Around) (R : Result → Shared → Prop) (h : Heap) (g : Array GenState) (d : Drawn) (t : Nat) (os : OsState) (x t0 : Addr) (us : List Value), us.length = n → K.In h → h.Ns mainGlobals mg → (∃ mb, h.Ns builtinsNs mb ∧ ∀ y : Str, y ≠ "__name__" → mb y = bootBuiltins y) → h.NoLimit →
  h.get? x = some (excO C t0) → K.lookup x = none → A.depth < recursionLimit → (∀ h' tk, IEnd h h' x C (fmap fs us) → R (.ok (.ret .none)) ⟨h', g, d, tk, os⟩) → codeAny (model prog w) A (.call (.ref fI) ⟨.ref x :: us, []⟩) R ⟨h, g, d, t, os⟩
theorem initOk1 (T : ExTxt prog K mg C fI nm [f] [iSup msg j p0 p1 p2 p3 p4 p5, iAsg f q1 q2 q3 q4]) (so : SupOk ["self", f] fI msg j p0 p1 p2 p3 p4) (ao : AsgOk ["self", f] fI f q1 q2 q3 q4) (sc : ScpOk [f]) (bo : BndOk [f] [iSup msg j p0 p1 p2 p3 p4 p5, iAsg f q1 q2 q3 q4]) : InitOk prog w K mg C fI 1 [f] :=
  fun A R h g d t os x t0 us hl X hG hB lim hx hx0 room q => match us, hl with
    | [_], _ => init1 T so ao sc bo X hG hB lim hx hx0 room q
theorem initOk2 (T : ExTxt prog K mg C fI nm [f, f2] [iSup msg j p0 p1 p2 p3 p4 p5, iAsg f q1 q2 q3 q4, iAsg f2 r1 r2 r3 r4]) (so : SupOk ["self", f, f2] fI msg j p0 p1 p2 p3 p4) (ao : AsgOk ["self", f, f2] fI f q1 q2 q3 q4) (ao2 : AsgOk ["self", f, f2] fI f2 r1 r2 r3 r4) (sc : ScpOk [f, f2]) (ff : (f == f2) = false) (bo : BndOk [f, f2] [iSup msg j p0 p1 p2 p3 p4 p5, iAsg f q1 q2 q3 q4, iAsg f2 r1 r2 r3 r4]) : InitOk prog w K mg C fI 2 [f, f2] :=
  fun A R h g d t os x t0 us hl X hG hB lim hx hx0 room q => match us, hl with
    | [_, _], _ => init2 T so ao ao2 sc ff bo X hG hB lim hx hx0 room q
theorem made {fs : List Str} {body : List Stmt} {us : List Value} {s : Shared} (T : ExTxt prog K mg C fI nm fs body) (IO : InitOk prog w K mg C fI fs.length fs) (hl : us.length = fs.length) (hz : us.length ≤ sizeLine) (X : K.In s.heap) (hG : s.heap.Ns mainGlobals mg) (hB : ∃ mb, s.heap.Ns builtinsNs mb ∧ ∀ y : Str, y ≠ "__name__" → mb y = bootBuiltins y) (lim : s.heap.NoLimit) (room : A.depth + 1 < recursionLimit)
    (q : ∀ h' tk e, EMade s.heap h' e C (fmap fs us) → R (.ok (.ret (.ref e))) { s with heap := h', toks := tk }) : codeAny (model prog w) A (.call (.ref C) ⟨us, []⟩) R s := by
  obtain ⟨nm', q', N, bs, bm, sn, sub, ab, col, dd, k0, k1, k2, k3, k5, eC, ebm⟩ := T.cls
  obtain ⟨hp, g, dr, tk, os⟩ := s
  have kp : ∀ b o, hp.get? b = some o → ((hp.push (kdv_tup us)).push (excO C hp.objs.size)).get? b = some o := fun b o z => Heap.get?_push_of_some _ (Heap.get?_push_of_some _ z)
  have ge : ((hp.push (kdv_tup us)).push (excO C hp.objs.size)).get? (hp.objs.size + 1) = some (excO C hp.objs.size) := by heap_get
  have nx : K.lookup (hp.objs.size + 1) = none := by
    cases z : K.lookup (hp.objs.size + 1) with
    | none => rfl
    | some o => exact absurd (Nat.lt_of_succ_lt (Heap.lt_size (X _ _ z))) (Nat.lt_irrefl _)
  refine call_own PySem.F.excBase_ValueError (fun Y => refsVE_contains Y bm ebm) (X _ _ eC) (looks_findIn X T.iC) (fun self => bind_fn X self T.tC) hz ?_
  refine IO _ _ _ g dr tk os (hp.objs.size + 1) hp.objs.size us hl (X.keeps kp) (hG.keeps kp) (by obtain ⟨mb, n1, n2⟩ := hB; exact ⟨mb, n1.keeps kp, n2⟩) (lim.keeps kp) ge nx room fun h' tk' M => ?_
  obtain ⟨dx, t1, e1, e2, e3, e4⟩ := M.ex
  refine ⟨rfl, q h' tk' _ ⟨fun b o z => M.keep b o (Nat.ne_of_lt (Nat.lt_succ_of_lt (Heap.lt_size z))) (kp b o z), Nat.le_succ _, dx, _, _, e1, rfl, rfl, rfl, rfl, ?_, e3, e4⟩⟩
  have z : hp.objs.size + 1 + 1 ≤ dx := by simpa only [Heap.size_push] using e2
  exact Nat.le_trans (Nat.le_trans (Nat.le_succ _) (Nat.le_succ _)) z
end
end Ct

namespace Ct
open PySem PySem.Spec PyProof.Rows L2
theorem relO_fmap : ∀ {fs : List Str} {vs : List V} {us : List Value}, Vals vs us → fs.length = vs.length → ∀ y : Str, RelO (List.lookup y (fs.zip vs)) (fmap fs us y)
  | [], [], _, .nil, _, _ => trivial
  | f :: fs, v :: vs, u :: us, .cons r rs, hl, y => by
    show RelO (List.lookup y ((f, v) :: fs.zip vs)) (if y = f then some u else fmap fs us y)
    by_cases e : y = f
    · subst e
      rw [if_pos rfl]
      have : List.lookup y ((y, v) :: fs.zip vs) = some v := by simp [List.lookup]
      rw [this]
      exact r
    · rw [if_neg e]
      have e' : (y == f) = false := by simpa using e
      have : List.lookup y ((f, v) :: fs.zip vs) = List.lookup y (fs.zip vs) := by simp [List.lookup, e']
      rw [this]
      exact relO_fmap rs (Nat.succ.inj hl) y
section
variable {X : Cx} {C fI : Addr} {nm : Str} {fs : List Str} {body : List Stmt}
/-- X(e, ..) -/
theorem pmk_ex {e : Expr} {es : List Expr} {ta : TA} {p pos : Pos} {k : Nat} (T : ExTxt X.prog X.K X.mg C fI nm fs body) (IO : InitOk X.prog X.w X.K X.mg C fI fs.length fs) (hr : Room k X.A) (ha : PA X (e :: es) ta) (hg : Gl X nm) (hdb : (nm == ("__debug__" : Str)) = false)
    (he : starEach (e :: es) X.env = (false, eval e X.env) :: starEach es X.env) (hpl : (backTo pos (starEach es X.env)).any (·.1) = false) :
    PMk X (.Call (.Name nm p) (e :: es) [] pos) (fun σ H Q => ta σ H fun vs H1 => fs.length = vs.length ∧ vs.length ≤ sizeLine ∧ ∀ d, H1 d = none → Q (.ref C) (some d) (upd H1 d (.xd (fs.zip vs)))) := by
  intro pins s σ H Q J z
  refine wpAny_Call_Name_kw (ld_glob J hg T.gC ?_ hdb)
  refine PySem.W.callWith_K (h₀ := X.base) J.ok.mod.kin T.kC (thn (ha.run pos pins s σ H _ J z) fun us s1 hh => ?_) he hpl
  obtain ⟨vs, H1, J1, rv, hl, hz, q1⟩ := hh
  refine ⟨J1.kIn, ?_⟩
  show wpAny _ _ (call (.ref C) us) _ _ _
  have lim := J1.nolimit
  have hG := J1.mod.glob.keeps J1.bk
  have hB : ∃ mb, s1.heap.Ns builtinsNs mb ∧ ∀ y : Str, y ≠ "__name__" → mb y = bootBuiltins y := by
    obtain ⟨mb, n1, n2⟩ := J1.mod.blt
    exact ⟨mb, n1.keeps J1.bk, n2⟩
  obtain ⟨hp, g, dr, tk, os⟩ := s1
  refine wpAny_call (made T IO (rv.length.symm.trans hl.symm) (by rw [← rv.length]; exact hz) J1.kIn hG hB lim (by have := hr.dp; omega) fun h' tk' a M => ?_)
  show MkP X pins σ Q (.ref a) ⟨h', g, dr, tk', os⟩
  obtain ⟨dx, oe, fv, m1, m2, m3, m4, m5, m6, m7, m8⟩ := M.ex
  obtain ⟨G', g1, g2⟩ := restrict h' fun b => decide (b ≠ a)
  have gk : ∀ b, b ≠ a → G'.get? b = h'.get? b := fun b hb => g1 b (decide_eq_true hb)
  have ga : G'.get? a = none := g2 a (by simp)
  have old : ∀ b o, hp.get? b = some o → G'.get? b = some o := fun b o y => (gk b (Nat.ne_of_lt (Nat.lt_of_lt_of_le (Heap.lt_size y) M.new))).trans (M.keep b o y)
  have ob : ObjOk X.prog X.w (upd H1 dx (.xd (fs.zip vs))) G' dx (.xd (fs.zip vs)) := ⟨_, m8.at (fun o y => (gk dx m7).trans y), fun f => relO_fmap rv hl f⟩
  have J2 : Inv X pins σ (upd H1 dx (.xd (fs.zip vs))) ⟨G', g, dr, tk', os⟩ := J1.laid (t' := tk') old m6 ob
  refine ⟨a, oe, fv, ⟨G', g, dr, tk', os⟩, _, .ref C, some dx, rfl, J2, fun b o y => ?_, ga, m1, ⟨m2, m3⟩, m4, m5, ?_, rfl, J1.bare, raises_own T.exC T.tyC, q1 dx (J1.hok.fresh m6)⟩
  · by_cases hb : b = a
    · have y' : G'.get? b = some o := y
      rw [hb, ga] at y'; cases y'
    · exact (gk b hb).symm.trans y
  · rw [upd_ne (Ne.symm m7)]
    exact J1.hok.fresh M.new
end

/-! ### raise, as functions -/
def fRaise (c : Nat) (g : Rho → Rs (List D)) : Rho → Out := fun ρ => (g ρ).out ρ fun ds => .exc ⟨c, ds⟩ ρ
section
variable {S : Sx} {kd : Kd} {st : Stmt}
/-- raise X(e, ..), X with attributes -/
theorem xs_raise {C fI : Addr} {nm : Str} {fs : List Str} {body : List Stmt} {c k : Nat} {e : Expr} {es : List Expr} {g : Rho → Rs (List D)} {p pos pos2 : Pos} (hc : S.X.calm = true) (tk : Takes S.X S.W) (T : ExTxt S.X.prog S.X.K S.X.mg C fI nm fs body) (IO : InitOk S.X.prog S.X.w S.X.K S.X.mg C fI fs.length fs)
    (hca : S.ca c = C) (hcf : S.cf c = fs) (hr : Room k S.X.A) (ha : XA S .e (e :: es) g) (hfs : fs.length = (e :: es).length) (hsz : fs.length ≤ sizeLine) (hg : Gl S.X nm := by rfl) (hdb : (nm == ("__debug__" : Str)) = false := by decide)
    (hlen : ∀ ρ ds, g ρ = .ok ds → ds.length = fs.length)
    (he : starEach (e :: es) S.X.env = (false, eval e S.X.env) :: starEach es S.X.env := by rfl) (hpl : (backTo pos (starEach es S.X.env)).any (·.1) = false := by rfl) : XS S kd (.Raise (some (.Call (.Name nm p) (e :: es) [] pos)) none pos2) (fRaise c g) :=
  let ⟨_, a1, a2⟩ := ha
  ⟨_, ps_raise hc tk (pmk_ex T IO hr a1 hg hdb he hpl), fun H0 G0 σ H G ρ N q w => by
    unfold fRaise at w
    cases eg : g ρ with
    | stuck => rw [eg] at w; exact w.elim
    | exc er =>
      rw [eg] at w
      refine a2 H0 G0 σ H G ρ _ q ?_
      rw [eg]
      exact fun cc dd H' G' s r => w cc dd σ H' G' (q.step s) r
    | ok ds =>
      rw [eg] at w
      have hd := hlen ρ ds eg
      refine a2 H0 G0 σ H G ρ _ q ?_
      rw [eg]
      intro vs H1 G1 s1 r1
      have hv : vs.length = fs.length := (RpL.length r1).trans hd
      refine ⟨hv.symm, by rw [hv]; exact hsz, fun d hd' => ?_⟩
      exact w (.ref C) (some d) σ _ _ (q.step (s1.trans (Step.new s1.sub hd'))) ⟨by rw [hca], .inr ⟨d, vs, rfl, by rw [hcf]; exact hv.symm, by rw [hcf]; exact upd_same, RpL.mono (same_new (Same.free s1.sub hd')) r1⟩⟩⟩
/-- raise X('text'), X without __init__ -/
theorem xs_raise0 {C : Addr} {x m : Str} {c j : Nat} {p p2 pos pos2 : Pos} (hc : S.X.calm = true) (tk : Takes S.X S.W) (q : PySem.W.excIn S.X.K C [.type "ValueError", .type "Exception", .type "BaseException", .type "object"] "ValueError.__new__" = true) (gC : S.X.mg x = some (.ref C)) (kC : PySem.W.keepIn S.X.K (.ref C) = true) (r : Raises S.X (.ref C))
    (hca : S.ca c = C) (hg : Gl S.X x := by rfl) (hdb : (x == ("__debug__" : Str)) = false := by decide) : XS S kd (.Raise (some (.Call (.Name x p) [.Constant (.str m) j p2] [] pos)) none pos2) (fRaise c aNil) :=
  ⟨_, ps_raise hc tk (pmk_own PySem.F.excBase_ValueError q gC kC r hg hdb), fun H0 G0 σ H G ρ N q' w => w (.ref C) none σ H G q' ⟨by rw [hca], .inl ⟨rfl, rfl⟩⟩⟩
theorem al0 : ∀ ρ ds, aNil ρ = .ok ds → ds.length = 0 := fun ρ ds h => by cases h; rfl
theorem al1 {f : Rho → Rs D} {g : Rho → Rs (List D)} {n : Nat} (h : ∀ ρ ds, g ρ = .ok ds → ds.length = n) : ∀ ρ ds, aCons f g ρ = .ok ds → ds.length = n + 1 := fun ρ ds e => by
  unfold aCons at e
  cases e1 : f ρ with
  | exc _ => rw [e1] at e; cases e
  | stuck => rw [e1] at e; cases e
  | ok d =>
    rw [e1] at e
    cases e2 : g ρ with
    | exc _ => rw [Rs.bind_ok, e2] at e; cases e
    | stuck => rw [Rs.bind_ok, e2] at e; cases e
    | ok l =>
      rw [Rs.bind_ok, e2] at e
      cases e
      rw [List.length_cons, h ρ l e2]
end
end Ct

namespace Ct
open PySem PySem.Spec PyProof.Rows L2

/-- an except clause: its class, its name's slot (if it has one), its suite -/
abbrev Clause := Value × Option Nat × (Addr → Value → Option Addr → TS)
/-- behind a suite whose clause has a name the slot is empty -/
def goneE (o : Option Nat) (N : Ends) : Ends := match o with
  | none => N
  | some i => { nx := fun σ H => N.nx (σ.set i none) H, rt := N.rt, bk := fun σ H => N.bk (σ.set i none) H, ct := fun σ H => N.ct (σ.set i none) H }
def inS (o : Option Nat) (a : Addr) (σ : L2.St) : L2.St := match o with
  | none => σ
  | some i => σ.set i (some (.ref a))
/-- what the clauses wish of an error of the body -/
def wCl (K : PySem.W.Frag) (Wo : WX) (N : Ends) : List Clause → WX
  | [] => Wo
  | (c, o, ts) :: r => fun cls d σ H => ∃ b, PySem.W.exmOne K cls c = some b ∧ (b = true → ∀ a, H a = none → ts a cls d (goneE o N) (inS o a σ) H) ∧ (b = false → wCl K Wo N r cls d σ H)
inductive Cls' (X : Cx) : List ExceptHandler → List Clause → Prop
  | nil : Cls' X [] []
  | plain {x : Str} {c : Value} {ts : Addr → Value → Option Addr → TS} {b₀ : Stmt} {su : List Stmt} {p1 p2 : Pos} {hs : List ExceptHandler} {l : List Clause} (hc : Names X x c)
      (hsu : ∀ (a : Addr) (oe : Obj) (cls : Value) (d : Option Addr) (pn : List (Addr × Obj)), Zc cls d oe → (∃ vs, oe.data = .fields vs) → PSs (X.suite a ((a, oe) :: pn)) (b₀ :: su) (ts a cls d)) (r : Cls' X hs l) :
      Cls' X (.ExceptHandler (some (.Name x p1)) none (b₀ :: su) p2 :: hs) ((c, none, ts) :: l)
  | named {x n : Str} {i : Nat} {c : Value} {ts : Addr → Value → Option Addr → TS} {b₀ : Stmt} {su : List Stmt} {p1 p2 : Pos} {hs : List ExceptHandler} {l : List Clause} (hN : X.N.Nodup) (hi : X.N[i]? = some n) (hl : X.env.kindOf n = some .local) (hc : Names X x c)
      (hsu : ∀ (a : Addr) (oe : Obj) (cls : Value) (d : Option Addr) (pn : List (Addr × Obj)), Zc cls d oe → (∃ vs, oe.data = .fields vs) → PSs (X.suite a ((a, oe) :: pn)) (b₀ :: su) (ts a cls d)) (r : Cls' X hs l) :
      Cls' X (.ExceptHandler (some (.Name x p1)) (some n) (b₀ :: su) p2 :: hs) ((c, some i, ts) :: l)
section
variable {X : Cx} {body : List Stmt} {h0 : ExceptHandler} {hds : List ExceptHandler} {l : List Clause} {pos : Pos} {tb : WX → TS} {Wo : WX}
theorem ps_tryA (hst : X.stack = X.env :: X.outer) (hfr : X.env.frame = some X.env.locals) (tk : Takes X Wo)
    (hbo : ∀ (W : WX) (pn : List (Addr × Obj)) (xe : Value → Shared → Prop), Takes (X.tr pn xe) W → PassesOwn (model X.prog X.w) X.A X.env xe → PSs (X.tr pn xe) body (tb W))
    (hcl : Cls' X (h0 :: hds) l) : PS X (.Try body (h0 :: hds) [] [] pos) (fun N σ H => tb (wCl X.K Wo N l) N σ H) := by
  refine ⟨fun pins s σ H N I start => ?_⟩
  have ok := I.ok
  have frm : X.A.frames = some (X.env :: X.outer) := by rw [ok.frames, hst]
  let caught : Value → Shared → Prop := fun e s1 => wpAny (model X.prog X.w) X.A (noteFrame e X.env) (fun _ s2 => wpAny (model X.prog X.w) X.A (setFlight e none) (fun _ s3 => wpAny (model X.prog X.w) X.A (handleBy e X.env (h0 :: hds)) (SP X pins N) X.xe s3) X.xe s2) X.xe s1
  have bodyRuns := (hbo (wCl X.K Wo N l) (X.pn ++ pins) caught (fun u s' air => ?_) PassesOwn.looking).run [] s σ H N (I.toTry _) start
  · refine wpAny_Try_except (wpAny_mono bodyRuns (fun fl s1 q1 => ?_) (fun e s1 q1 => q1))
    match fl, q1 with
    | .next, ⟨σ1, H1, J1, k1⟩ => exact wpAny_execs_nil ⟨σ1, H1, J1.ofTry ok, k1⟩
    | .brk, ⟨σ1, H1, J1, k1⟩ => exact ⟨σ1, H1, J1.ofTry ok, k1⟩
    | .cont, ⟨σ1, H1, J1, k1⟩ => exact ⟨σ1, H1, J1.ofTry ok, k1⟩
    | .ret _, ⟨v1, σ1, H1, J1, r1, k1⟩ => exact ⟨v1, σ1, H1, J1.ofTry ok, r1, k1⟩
  · obtain ⟨a, Bg, sI, pins', σ', H', cls, d, rfl, Ja, nb, up, sky, na, os, ag, wish⟩ := air
    have J := Ja.ofTry ok
    rw [hst] at sky
    show wpAny (model X.prog X.w) X.A (noteFrame (.ref a) X.env) _ _ _
    refine Sky.land Zc.steady frm hfr sky fun h3 fly up3 => ?_
    have J3 : Inv X pins σ' H' { s' with heap := h3 } := J.landed nb fly.1 (up.trans up3) os ag
    obtain ⟨oe3, vs3, at3, z3, dat3⟩ := fly.there
    have offFrames : a ∉ frs (X.env :: X.outer) := fun hm => by
      obtain ⟨_, o1, at1, nf1⟩ := fly.2.2.1.mem hm
      rw [at3] at at1
      cases at1
      exact nf1 _ dat3
    have aL : a ≠ X.env.locals := fun z => offFrames (List.mem_filterMap.mpr ⟨X.env, List.mem_cons_self, by rw [hfr, z]⟩)
    have aF : a ∉ X.fs := fun hm => by
      obtain ⟨e1, m1, f1⟩ := List.mem_filterMap.mp hm
      exact offFrames (List.mem_filterMap.mpr ⟨e1, List.mem_cons_of_mem _ m1, f1⟩)
    have S3 := J3.suite at3 dat3 na aL aF
    have tyA : PySem.W.Looks (model X.prog X.w) h3 (typeOf (.ref a)) cls := fun A Q E s k q => wpAny_typeOf_ref (k _ _ at3) (by rw [z3.1]; exact q)
    have named : ∀ {x : Str} {p1 : Pos} {c : Value} {Q E : Value → Shared → Prop}, Names X x c → Q c { s' with heap := h3 } → wpAny (model X.prog X.w) (X.A.mark (some (.ref a))) (eval (.Name x p1) X.env) Q E { s' with heap := h3 } := fun hc q => by
      obtain ⟨g1, g2, g3 | ⟨g3, g4, g5⟩⟩ := hc
      · exact ld_glob (X := X.suite a ((a, oe3) :: (X.pn ++ pins))) S3 g1 g3 q g2
      · exact ld_blt (X := X.suite a ((a, oe3) :: (X.pn ++ pins))) S3 g1 g3 g4 q g5 g2
    have walk : ∀ {hs : List ExceptHandler} {l' : List Clause}, Cls' X hs l' → wCl X.K Wo N l' cls d σ' H' → wpAny (model X.prog X.w) X.A (handleBy (.ref a) X.env hs) (SP X pins N) X.xe { s' with heap := h3 } := by
      intro hs l' cl
      induction cl with
      | nil =>
        intro w
        refine wpAny_handleBy_nil ?_
        obtain ⟨f1, f2, f3, oe, vs, T, oT, ts', ea, ez, ed, e1, er⟩ := id fly
        unfold PySem.passOn
        apply wpAny_bind
        refine wpAny_field ea ed e1 ?_
        have nT : ¬ ((Value.ref T == Value.none) = true) := by simp
        rw [if_neg nT]
        have onward : wpAny (model X.prog X.w) X.A (setFlight (.ref a) X.env.frame) (fun _ s4 => wpAny (model X.prog X.w) X.A (throw (.ref a) : Sem Flow) (SP X pins N) X.xe s4) X.xe { s' with heap := h3 } := by
          rw [hfr]
          refine HandSPX.setFlight_upZ fly fun h4 held up4 => wpAny_throw (tk _ _ ?_)
          refine ⟨a, Bg, sI, pins, σ', H', cls, d, rfl, J, nb, (up.trans up3).trans up4, ?_, na, os, ag, w⟩
          rw [hst]
          exact .inr (.inr held)
        first
          | exact wpAny_bind (wpAny_pure (wpAny_bind onward))
          | exact wpAny_bind onward
      | @plain x c ts b₀ su p1 p2 hs l2 hc hsu r ih =>
        intro w
        obtain ⟨b, eb, yes, no⟩ := w
        have LM := PySem.W.exm_one (M := model X.prog X.w) J3.kIn tyA eb
        refine wpAny_handleBy_cons (codeAny_handlers_test (named hc (LM.here ?_))) (by intro q; cases q)
        match b, yes, no with
        | false, _, no => exact ih (no rfl)
        | true, yes, _ =>
          refine codeAny_handlers_suite (HandSPX.lands_againZ fly fun h4 fl4 up4 => ?_)
          have J4 : Inv X pins σ' H' { s' with heap := h4 } := J.landed nb fl4.1 ((up.trans up3).trans up4) os ag
          obtain ⟨oe4, vs4, at4, z4, dat4⟩ := fl4.there
          have S4 := J4.suite at4 dat4 na aL aF
          refine wpAny_mono ((hsu a oe4 cls d (X.pn ++ pins) z4 ⟨_, dat4⟩).run [] _ _ H' _ S4 (yes rfl a na)) (fun fl s6 q6 => ?_) (fun _ _ z => False.elim z)
          match fl, q6 with
          | .next, ⟨σ6, H6, S6, k6⟩ => exact ⟨σ6, H6, S6.unsuite ok, k6⟩
          | .brk, ⟨σ6, H6, S6, k6⟩ => exact ⟨σ6, H6, S6.unsuite ok, k6⟩
          | .cont, ⟨σ6, H6, S6, k6⟩ => exact ⟨σ6, H6, S6.unsuite ok, k6⟩
          | .ret _, ⟨v6, σ6, H6, S6, r6, k6⟩ => exact ⟨v6, σ6, H6, S6.unsuite ok, r6, k6⟩
      | @named x n i c ts b₀ su p1 p2 hs l2 hN hi hl hc hsu r ih =>
        intro w
        obtain ⟨b, eb, yes, no⟩ := w
        have LM := PySem.W.exm_one (M := model X.prog X.w) J3.kIn tyA eb
        refine wpAny_handleBy_cons (codeAny_handlers_test (named hc (LM.here ?_))) (by intro q; cases q)
        match b, yes, no with
        | false, _, no => exact ih (no rfl)
        | true, yes, _ =>
          refine codeAny_handlers_suite_as (HandSPX.lands_againZ fly fun h4 fl4 up4 => ?_)
          have J4 : Inv X pins σ' H' { s' with heap := h4 } := J.landed nb fl4.1 ((up.trans up3).trans up4) os ag
          obtain ⟨oe4, vs4, at4, z4, dat4⟩ := fl4.there
          have S4 := J4.suite at4 dat4 na aL aF
          refine store_ok (X := X.suite a ((a, oe4) :: (X.pn ++ pins))) (v := .ref a) S4 hN hi (.inl hl) rfl (fun s5 S5 => ?_) (.inr hl)
          refine wpAny_mono ((hsu a oe4 cls d (X.pn ++ pins) z4 ⟨_, dat4⟩).run [] s5 _ H' _ S5 (yes rfl a na)) (fun fl s6 q6 => ?_) (fun _ _ z => False.elim z)
          have unbind : ∀ {σ6 : L2.St} {H6 : Hp} {Q : Shared → Prop}, Inv (X.suite a ((a, oe4) :: (X.pn ++ pins))) [] σ6 H6 s6 → (∀ s7, Inv X pins (σ6.set i none) H6 s7 → Q s7) →
            wpAny (model X.prog X.w) X.A (do bindName X.env n .none; unbindBehindTheSuite X.env n p2) (fun _ s7 => Q s7) X.xe s6 := fun S6 hq => gone_ok (S6.unsuite ok) hN hi hl hq
          match fl, q6 with
          | .next, ⟨σ6, H6, S6, k6⟩ => exact unbind S6 fun s7 J7 => ⟨_, H6, J7, k6⟩
          | .brk, ⟨σ6, H6, S6, k6⟩ => exact unbind S6 fun s7 J7 => ⟨_, H6, J7, k6⟩
          | .cont, ⟨σ6, H6, S6, k6⟩ => exact unbind S6 fun s7 J7 => ⟨_, H6, J7, k6⟩
          | .ret _, ⟨v6, σ6, H6, S6, r6, k6⟩ => exact unbind S6 fun s7 J7 => ⟨v6, _, H6, J7, r6, k6⟩
    exact walk hcl wish
end
end Ct

namespace Ct
open PySem PySem.Spec PyProof.Rows L2

/-! ### try, as a function -/
def inR (o : Option Nat) (er : Er) (ρ : Rho) : Rho := match o with
  | none => ρ
  | some i => ρ.set i (.ex er)
/-- no slot holds an error -/
def NoEx (ρ : Rho) : Bool := ρ.all fun s => match s with
  | .ex _ => false
  | _ => true
def goneR (o : Option Nat) (ρ : Rho) : Rho := match o with
  | none => ρ
  | some i => ρ.set i .un
def outG (o : Option Nat) (r : Out) : Out := match r with
  | .nx ρ => if NoEx (goneR o ρ) = true then .nx (goneR o ρ) else .stuck
  | .brk ρ => if NoEx (goneR o ρ) = true then .brk (goneR o ρ) else .stuck
  | .ct ρ => if NoEx (goneR o ρ) = true then .ct (goneR o ρ) else .stuck
  | .exc _ _ => .stuck
  | r => r
abbrev Hdl := Nat × Option Nat × (Rho → Out)
def handleS (sb : Nat → Nat → Option Bool) (er : Er) (ρ : Rho) : List Hdl → Out
  | [] => .exc er ρ
  | (hc, o, su) :: r => match sb er.c hc with
    | some true => outG o (su (inR o er ρ))
    | some false => handleS sb er ρ r
    | none => .stuck
def fTry (sb : Nat → Nat → Option Bool) (body : Rho → Out) (hs : List Hdl) : Rho → Out := fun ρ => match body ρ with
  | .exc er ρ1 => handleS sb er ρ1 hs
  | o => o
/-- which errors a clause takes -/
def SubOk (K : PySem.W.Frag) (ca : Nat → Addr) (sb : Nat → Nat → Option Bool) : Prop := ∀ c hc b, sb c hc = some b → PySem.W.exmOne K (.ref (ca c)) (.ref (ca hc)) = some b
/-- the weakest reading of a block -/
def uS (S : Sx) (kd : Kd) (g : Rho → Out) : TS := fun N σ H => ∃ H0 G0 G ρ, Ok S H0 G0 σ H G ρ ∧ OutP S kd H0 G0 N (g ρ)
theorem OutP.conv {S S' : Sx} (h1 : S'.ca = S.ca) (h2 : S'.cf = S.cf) (h3 : S'.xa = S.xa) (hW : S'.W = S.W) {kd : Kd} {H0 G0 : Hp} {N : Ends} : ∀ {o : Out}, OutP S kd H0 G0 N o → OutP S' kd H0 G0 N o
  | .nx _, h => fun σ H G q => h σ H G (q.conv h1.symm h2.symm h3.symm)
  | .brk _, h => fun σ H G q => h σ H G (q.conv h1.symm h2.symm h3.symm)
  | .ct _, h => fun σ H G q => h σ H G (q.conv h1.symm h2.symm h3.symm)
  | .ret _, h => h
  | .exc _ _, h => fun c dd σ H G q r => by rw [hW]; exact h c dd σ H G (q.conv h1.symm h2.symm h3.symm) (by rw [← h1, ← h2]; exact r)
  | .stuck, h => h
/-- a body's context (within try), a suite's -/
abbrev Sx.tr (S : Sx) (pn : List (Addr × Obj)) (xe : Value → Shared → Prop) (W : WX) : Sx := { S with X := S.X.tr pn xe, W := W }
abbrev Sx.sx (S : Sx) (a : Addr) (cls : Value) (d : Option Addr) : Sx := { S with W := fun _ _ _ _ => False, xa := some (a, cls, d) }
abbrev Sx.su (S : Sx) (a : Addr) (oe : Obj) (pn : List (Addr × Obj)) (cls : Value) (d : Option Addr) : Sx := { S with X := S.X.suite a ((a, oe) :: pn), W := fun _ _ _ _ => False, xa := some (a, cls, d) }
theorem pss_uB {S : Sx} {kd : Kd} {b : List Stmt} {g : Rho → Out} {pn : List (Addr × Obj)} {xe : Value → Shared → Prop} {W : WX} (h : XSs (S.tr pn xe W) kd b g) : PSs (S.X.tr pn xe) b (uS { S with W := W } kd g) :=
  let ⟨_, a1, a2⟩ := h; ⟨fun pins s σ H N I ⟨H0, G0, G, ρ, q, w⟩ => a1.run pins s σ H N I (a2 H0 G0 σ H G ρ N (Ok.conv (S := { S with W := W }) (S' := S.tr pn xe W) rfl rfl rfl q) (OutP.conv (S := { S with W := W }) (S' := S.tr pn xe W) rfl rfl rfl rfl w))⟩
theorem pss_uS {S : Sx} {kd : Kd} {b : List Stmt} {g : Rho → Out} {a : Addr} {oe : Obj} {pn : List (Addr × Obj)} {cls : Value} {d : Option Addr} (h : XSs (S.su a oe pn cls d) kd b g) : PSs (S.X.suite a ((a, oe) :: pn)) b (uS (S.sx a cls d) kd g) :=
  let ⟨_, a1, a2⟩ := h; ⟨fun pins s σ H N I ⟨H0, G0, G, ρ, q, w⟩ => a1.run pins s σ H N I (a2 H0 G0 σ H G ρ N (Ok.conv (S := S.sx a cls d) (S' := S.su a oe pn cls d) rfl rfl rfl q) (OutP.conv (S := S.sx a cls d) (S' := S.su a oe pn cls d) rfl rfl rfl rfl w))⟩
/-- the clauses -/
inductive XHs (S : Sx) (kd : Kd) : List ExceptHandler → List Hdl → List Clause → Prop
  | nil : XHs S kd [] [] []
  | plain {x : Str} {hc : Nat} {su : Rho → Out} {b₀ : Stmt} {sts : List Stmt} {p1 p2 : Pos} {hs : List ExceptHandler} {l : List Hdl} {cl : List Clause} (hn : Names S.X x (.ref (S.ca hc)))
      (h : ∀ (a : Addr) (oe : Obj) (cls : Value) (d : Option Addr) (pn : List (Addr × Obj)), Zc cls d oe → (∃ vs, oe.data = .fields vs) → XSs (S.su a oe pn cls d) kd (b₀ :: sts) su) (r : XHs S kd hs l cl) :
      XHs S kd (.ExceptHandler (some (.Name x p1)) none (b₀ :: sts) p2 :: hs) ((hc, none, su) :: l) ((.ref (S.ca hc), none, fun a cls d => uS (S.sx a cls d) kd su) :: cl)
  | named {x n : Str} {i hc : Nat} {su : Rho → Out} {b₀ : Stmt} {sts : List Stmt} {p1 p2 : Pos} {hs : List ExceptHandler} {l : List Hdl} {cl : List Clause} (hN : S.X.N.Nodup) (hi : S.X.N[i]? = some n) (hl : S.X.env.kindOf n = some .local) (hn : Names S.X x (.ref (S.ca hc)))
      (h : ∀ (a : Addr) (oe : Obj) (cls : Value) (d : Option Addr) (pn : List (Addr × Obj)), Zc cls d oe → (∃ vs, oe.data = .fields vs) → XSs (S.su a oe pn cls d) kd (b₀ :: sts) su) (r : XHs S kd hs l cl) :
      XHs S kd (.ExceptHandler (some (.Name x p1)) (some n) (b₀ :: sts) p2 :: hs) ((hc, some i, su) :: l) ((.ref (S.ca hc), some i, fun a cls d => uS (S.sx a cls d) kd su) :: cl)
theorem XHs.cls {S : Sx} {kd : Kd} : ∀ {hs : List ExceptHandler} {l : List Hdl} {cl : List Clause}, XHs S kd hs l cl → Cls' S.X hs cl
  | _, _, _, .nil => .nil
  | _, _, _, .plain hn h r => .plain hn (fun a oe cls d pn z f => pss_uS (h a oe cls d pn z f)) r.cls
  | _, _, _, .named hN hi hl hn h r => .named hN hi hl hn (fun a oe cls d pn z f => pss_uS (h a oe cls d pn z f)) r.cls
section
variable {S : Sx} {kd : Kd}
/-- no slot holds a caught error: the state is one of a suite's -/
theorem Ok.toSu {H0 G0 H G : Hp} {σ : St} {ρ : Rho} (hx : S.xa = none) (q : Ok S H0 G0 σ H G ρ) (a : Addr) (cls : Value) (d : Option Addr) : Ok (S.sx a cls d) H0 G0 σ H G ρ :=
  ⟨q.st, q.len, fun i s e => by
    obtain ⟨ov, e1, e2⟩ := q.sl i s e
    refine ⟨ov, e1, ?_⟩
    cases s with
    | ex er =>
      obtain ⟨a, cls, dd, x1, x2, x3⟩ := e2
      rw [hx] at x1
      cases x1
    | _ => exact e2, q.sep⟩
/-- back: a suite's state whose name is gone -/
theorem Ok.ofSu {H0 G0 H G : Hp} {σ : St} {ρ : Rho} {a : Addr} {cls : Value} {d : Option Addr} (q : Ok (S.sx a cls d) H0 G0 σ H G ρ) (h : ∀ (i : Nat) (er : Er), ρ[i]? ≠ some (.ex er)) : Ok S H0 G0 σ H G ρ :=
  ⟨q.st, q.len, fun i s e => by
    obtain ⟨ov, e1, e2⟩ := q.sl i s e
    refine ⟨ov, e1, ?_⟩
    cases s with
    | ex er => exact absurd e (h i er)
    | _ => exact e2, q.sep⟩
theorem NoEx.at {ρ : Rho} (h : NoEx ρ = true) (i : Nat) (er : Er) : ρ[i]? ≠ some (.ex er) := fun e => by
  have := List.all_eq_true.mp h _ (List.mem_of_getElem? e)
  cases this
theorem Ok.gone {S' : Sx} {H0 G0 H G : Hp} {σ : St} {ρ : Rho} (q : Ok S' H0 G0 σ H G ρ) (i : Nat) : Ok S' H0 G0 (σ.set i none) H G (ρ.set i .un) := q.setG rfl trivial
theorem OutP.suite {a : Addr} {cls : Value} {d : Option Addr} {H0 G0 : Hp} {N : Ends} (o : Option Nat) : ∀ {r : Out}, OutP S kd H0 G0 N (outG o r) → OutP (S.sx a cls d) kd H0 G0 (goneE o N) r
  | .nx ρ, h => fun σ H G q => by
    unfold outG at h
    dsimp only at h
    split at h
    · rename_i c
      cases o with
      | none => exact h σ H G (q.ofSu (NoEx.at c))
      | some i => exact h _ H G ((q.gone i).ofSu (NoEx.at c))
    · exact h.elim
  | .brk ρ, h => fun σ H G q => by
    unfold outG at h
    dsimp only at h
    split at h
    · rename_i c
      cases o with
      | none => exact h σ H G (q.ofSu (NoEx.at c))
      | some i => exact h _ H G ((q.gone i).ofSu (NoEx.at c))
    · exact h.elim
  | .ct ρ, h => fun σ H G q => by
    unfold outG at h
    dsimp only at h
    split at h
    · rename_i c
      cases o with
      | none => exact h σ H G (q.ofSu (NoEx.at c))
      | some i => exact h _ H G ((q.gone i).ofSu (NoEx.at c))
    · exact h.elim
  | .ret dv, h => by
    cases o with
    | none => exact h
    | some i => exact h
  | .exc er ρ, h => h.elim
  | .stuck, h => h.elim
theorem ts_handle {sb : Nat → Nat → Option Bool} (hx : S.xa = none) (hsb : SubOk S.X.K S.ca sb) {er : Er} {ρ : Rho} {H0 G0 : Hp} {N : Ends} : ∀ {hs : List ExceptHandler} {l : List Hdl} {cl : List Clause}, XHs S kd hs l cl → OutP S kd H0 G0 N (handleS sb er ρ l) →
    ∀ c dd σ H G, Ok S H0 G0 σ H G ρ → ErR S.ca S.cf G er c dd → wCl S.X.K S.W N cl c dd σ H
  | _, _, _, .nil, w, c, dd, σ, H, G, q, r => w c dd σ H G q r
  | _, _, _, .plain (hc := hc) (su := su) hn h rest, w, c, dd, σ, H, G, q, r => by
    unfold handleS at w
    split at w
    · rename_i e
      have ec := hsb _ _ _ e
      refine ⟨true, by rw [r.1]; exact ec, fun _ a ha => ?_, fun z => by cases z⟩
      exact ⟨H0, G0, G, ρ, q.toSu hx a c dd, OutP.suite none w⟩
    · rename_i e
      have ec := hsb _ _ _ e
      exact ⟨false, by rw [r.1]; exact ec, (fun z => by cases z), fun _ => ts_handle hx hsb rest w c dd σ H G q r⟩
    · exact w.elim
  | _, _, _, .named (i := i) (hc := hc) (su := su) hN hi hl hn h rest, w, c, dd, σ, H, G, q, r => by
    unfold handleS at w
    split at w
    · rename_i e
      have ec := hsb _ _ _ e
      refine ⟨true, by rw [r.1]; exact ec, fun _ a ha => ?_, fun z => by cases z⟩
      exact ⟨H0, G0, G, ρ.set i (.ex er), (q.toSu hx a c dd).setG rfl ⟨a, c, dd, rfl, rfl, r⟩, OutP.suite (some i) w⟩
    · rename_i e
      have ec := hsb _ _ _ e
      exact ⟨false, by rw [r.1]; exact ec, (fun z => by cases z), fun _ => ts_handle hx hsb rest w c dd σ H G q r⟩
    · exact w.elim
theorem ts_try {sb : Nat → Nat → Option Bool} {body : Rho → Out} {hs : List ExceptHandler} {l : List Hdl} {cl : List Clause} (hx : S.xa = none) (hsb : SubOk S.X.K S.ca sb) (hcl : XHs S kd hs l cl) :
    TSt S kd (fun N σ H => (fun W => uS { S with W := W } kd body) (wCl S.X.K S.W N cl) N σ H) (fTry sb body l) := fun H0 G0 σ H G ρ N q w => by
  refine ⟨H0, G0, G, ρ, Ok.conv (S := S) (S' := { S with W := wCl S.X.K S.W N cl }) rfl rfl rfl q, ?_⟩
  unfold fTry at w
  have cv : ∀ {σ H G ρ W}, Ok { S with W := W } H0 G0 σ H G ρ → Ok S H0 G0 σ H G ρ := fun {σ H G ρ W} q => Ok.conv (S := { S with W := W }) (S' := S) rfl rfl rfl q
  cases e : body ρ with
  | nx ρ1 => rw [e] at w; exact fun σ H G q => w σ H G (cv q)
  | brk ρ1 => rw [e] at w; exact fun σ H G q => w σ H G (cv q)
  | ct ρ1 => rw [e] at w; exact fun σ H G q => w σ H G (cv q)
  | ret d => rw [e] at w; exact w
  | stuck => rw [e] at w; exact w
  | exc er ρ1 =>
    rw [e] at w
    exact fun c dd σ1 H1 G1 q1 r1 => ts_handle hx hsb hcl w c dd σ1 H1 G1 (cv q1) r1
theorem xs_try {sb : Nat → Nat → Option Bool} {body : Rho → Out} {bd : List Stmt} {h0 : ExceptHandler} {hs : List ExceptHandler} {l : List Hdl} {cl : List Clause} {pos : Pos} (hst : S.X.stack = S.X.env :: S.X.outer) (hfr : S.X.env.frame = some S.X.env.locals) (tk : Takes S.X S.W) (hx : S.xa = none) (hsb : SubOk S.X.K S.ca sb)
    (hb : ∀ (W : WX) (pn : List (Addr × Obj)) (xe : Value → Shared → Prop), Takes (S.X.tr pn xe) W → PassesOwn (model S.X.prog S.X.w) S.X.A S.X.env xe → XSs (S.tr pn xe W) kd bd body) (hcl : XHs S kd (h0 :: hs) l cl) : XS S kd (.Try bd (h0 :: hs) [] [] pos) (fTry sb body l) :=
  ⟨_, ps_tryA hst hfr tk (fun W pn xe t p => pss_uB (hb W pn xe t p)) hcl.cls, ts_try hx hsb hcl⟩

/-! ### in a suite: the error's attributes, its class -/
/-- n.f, n the error that the suite holds, of the class c -/
def fExF (i c j : Nat) : Rho → Rs D := fun ρ => match ρ[i]? with
  | some (.ex er) => if er.c = c then (match er.fs[j]? with
    | some d => .ok d
    | none => .stuck) else .stuck
  | _ => .stuck
def tExF (C : Addr) (a : Addr) (cls : Value) (d : Option Addr) (f : Str) (te : TE) : TE := fun σ H Q => te σ H fun x H1 => x = .ref a ∧ cls = .ref C ∧ ∃ (dd : Addr) (fs : List (Str × V)) (v : V), d = some dd ∧ H1 dd = some (.xd fs) ∧ List.lookup f fs = some v ∧ Q v H1
theorem pe_exf {X : Cx} {C fI a : Addr} {nm f : Str} {fs : List Str} {body : List Stmt} {oe : Obj} {cls : Value} {d : Option Addr} {pn : List (Addr × Obj)} {e : Expr} {te : TE} {pos : Pos} (T : ExTxt X.prog X.K X.mg C fI nm fs body) (hf : f ∈ fs) (hz : Zc cls d oe) (hdt : ∃ vs, oe.data = .fields vs) (he : PE (X.suite a ((a, oe) :: pn)) e te)
    (hb : attributeBase e f X.env (eval e X.env) = eval e X.env) : PE (X.suite a ((a, oe) :: pn)) (.Attribute e f pos) (tExF C a cls d f te) := by
  refine ⟨fun pins s σ H Q I q => attr_of hb (thn (he.run pins s σ H _ I q) fun u s1 hh => ?_)⟩
  obtain ⟨x, H1, J, rx, ex, ec, dd, fv, v, ed, ea, el, k⟩ := hh
  subst ex
  obtain rfl : u = Value.ref a := rx
  subst ec
  subst ed
  have hp := (J.pin (a, oe) (List.mem_append_left _ List.mem_cons_self)).1
  obtain ⟨vs, hd⟩ := hdt
  obtain ⟨mA, hns, hr⟩ := (show ObjOk X.prog X.w H1 s1.heap dd (.xd fv) from J.hok dd _ ea)
  obtain ⟨od, ho, hl⟩ := lookIn_ns hns
  obtain ⟨u, hu, ru⟩ := RelO.some_of (v := v) (o := mA f) (by rw [← el]; exact hr f)
  have IA : PySem.W.InstAt s1.heap a oe C (some od) := ⟨hp, hz.1, by unfold PySem.W.notCls; rw [hd] <;> rfl, by rw [hz.2]; exact ho⟩
  exact PySem.HandSPX.exc_get J.kIn IA T.ga T.gg T.exC (PySem.W.findObj_own T.hdC (T.noF f hf) rfl (by rw [hl, hu])) (handed_of ru) ⟨v, H1, J.tok _, ru, k⟩
theorem zip_lookup {G : Hp} {f : Str} : ∀ {fs : List Str} {vs : List V} {ds : List D} {j : Nat} {d : D}, fs.Nodup → fs[j]? = some f → ds[j]? = some d → RpL G vs ds → ∃ v, List.lookup f (fs.zip vs) = some v ∧ Rp G v d
  | [], _, _, _, _, _, h, _, _ => by cases h
  | g :: fs, _, _, 0, d, _, h, hd, .cons r _ => by
    cases h
    cases hd
    exact ⟨_, by simp [List.lookup], r⟩
  | g :: fs, v :: vs, _ :: ds, j + 1, d, nd, h, hd, .cons _ rl => by
    rw [List.nodup_cons] at nd
    obtain ⟨v', e, r⟩ := zip_lookup (j := j) nd.2 h hd rl
    refine ⟨v', ?_, r⟩
    have m : f ∈ fs := List.mem_of_getElem? h
    have ne : (f == g) = false := by
      simp only [beq_eq_false_iff_ne, ne_eq]
      intro z
      exact nd.1 (z ▸ m)
    show List.lookup f ((g, v) :: fs.zip vs) = some v'
    simp only [List.lookup, ne]
    exact e
  | _ :: _, _, [], _ + 1, _, _, _, hd, .nil => by cases hd
theorem xexf {C fI a : Addr} {nm f n : Str} {fs : List Str} {body : List Stmt} {oe : Obj} {cls : Value} {d : Option Addr} {pn : List (Addr × Obj)} {i c j : Nat} {pos p : Pos} (T : ExTxt S.X.prog S.X.K S.X.mg C fI nm fs body) (hca : S.ca c = C) (hcf : S.cf c = fs) (nd : fs.Nodup) (hj : fs[j]? = some f) (hz : Zc cls d oe) (hdt : ∃ vs, oe.data = .fields vs)
    (hv : PE (S.X.suite a ((a, oe) :: pn)) (.Name n p) (tVar i)) (hb : attributeBase (.Name n p) f S.X.env (eval (.Name n p) S.X.env) = eval (.Name n p) S.X.env := by rfl) : XX (S.su a oe pn cls d) .e (.Attribute (.Name n p) f pos) (fExF i c j) :=
  ⟨_, pe_exf T (List.mem_of_getElem? hj) hz hdt hv hb, fun H0 G0 σ H G ρ Q q w => by
    unfold fExF at w
    split at w
    · rename_i er e
      obtain ⟨ov, e1, a', cls', dd, x1, x2, x3⟩ := q.sl i _ e
      cases x1
      subst x2
      split at w
      · rename_i hc
        split at w
        · rename_i dv ed
          obtain ⟨y1, y2 | ⟨dd', vs, y2, y3, y4, y5⟩⟩ := x3
          · rw [y2.1] at ed; cases ed
          · have y1 : cls = .ref (S.ca er.c) := y1
            have y3 : (S.cf er.c).length = vs.length := y3
            have y4 : G dd' = some (.xd ((S.cf er.c).zip vs)) := y4
            rw [hc] at y1 y4
            rw [hca] at y1
            rw [hcf] at y4
            obtain ⟨v, l1, l2⟩ := zip_lookup nd hj ed y5
            exact ⟨_, e1, rfl, y1, dd', _, v, y2, q.st.sub _ _ y4, l1, wp_ok w v H G (Step.refl q.st.sub) l2⟩
        · exact w.elim
      · exact w.elim
    · exact w.elim⟩
end
end Ct

namespace Ct
open PySem PySem.Spec PyProof.Rows L2

/-! ### isinstance -/
/-- of a value: bool, int, list, tuple -/
def tyName : D → Option String
  | .none => some "NoneType"
  | .bool _ => some "bool"
  | .int _ => some "int"
  | .list _ => some "list"
  | .tuple _ => some "tuple"
  | _ => none
def sIsT (T : String) (x : D) : Rs D := match tyName x with
  | some n => match kitB n T with
    | some b => .ok (.bool b)
    | none => .stuck
  | none => .stuck
theorem Rp.tyX {K : PySem.W.Frag} {H : Hp} {v : V} {d : D} {n : String} (h : Rp H v d) (e : tyName d = some n) : TyX K H v (.type n) := by
  cases h with
  | non => cases e; exact .base .non
  | bl b => cases e; exact .base (.bl b)
  | int i => cases e; exact .base (.int i)
  | lst h _ => cases e; exact .base (.lst h)
  | tup h _ => cases e; exact .base (.tup h)
  | dct _ _ => cases e
  | ins _ _ => cases e
  | scr _ _ => cases e
section
variable {S : Sx} {e : Expr} {f : Rho → Rs D} {p p2 pos : Pos} {Tn : Str} {T : String}
theorem xisT (hm : S.X.mg "isinstance" = none) (h : XX S .b e f) (hT : S.X.mg Tn = none) (hv : bootBuiltins Tn = some (.type T)) (hg : Gl S.X "isinstance" := by rfl) (hg2 : Gl S.X Tn := by rfl) (hn : Tn ≠ "__name__" := by decide) (hd : (Tn == ("__debug__" : Str)) = false := by decide)
    (he : starEach (e :: [.Name Tn p2]) S.X.env = (false, eval e S.X.env) :: starEach [.Name Tn p2] S.X.env := by rfl) (he2 : starEach (.Name Tn p2 :: []) S.X.env = (false, eval (.Name Tn p2) S.X.env) :: starEach [] S.X.env := by rfl) (hpl : (backTo pos (starEach [.Name Tn p2] S.X.env)).any (·.1) = false := by rfl) :
    XX S .e (.Call (.Name "isinstance" p) [e, .Name Tn p2] [] pos) (fUn (sIsT T) f) :=
  let ⟨_, a1, a2⟩ := h
  ⟨_, pe_callB call_isi hg hm (by decide +kernel) (pa_cons a1 (pa_cons (pe_bltn (v := .ty T) hg2 hT hv rfl hn hd) pa_nil he2) he) (he := he) (hpl := hpl), fun H0 G0 σ H G ρ Q q w => by
    refine a2 H0 G0 σ H G ρ _ q (Wp.imp (Wp.bind w) (fun d wd v H1 G1 s1 r1 => ?_) fun _ z => z)
    unfold sIsT at wd
    split at wd
    · rename_i n en
      split at wd
      · rename_i b eb
        exact ⟨v, .ty T, .type n, .type T, b, rfl, .ty T, Rp.tyX r1 en, kit_ty eb, wp_ok wd _ H1 G1 s1 (.bl b)⟩
      · exact wd.elim
    · exact wd.elim⟩
end
/-- of the error that a suite holds -/
def rIsE2 (K : PySem.W.Frag) (C a : Addr) (d : Option Addr) : List V → Hp → VK → Prop := fun xs H Q => ∃ (c : V) (cv : Value) (b : Bool), xs = [.ref a, c] ∧ (∀ u, RelV c u → u = cv) ∧ (d = none ∨ ∃ dd fs, d = some dd ∧ H dd = some (.xd fs)) ∧ PySem.W.kitOne K (.ref C) cv = some b ∧ Q (.bl b) H
theorem call_isE2 {X : Cx} {a C : Addr} {oe : Obj} {d : Option Addr} {pn : List (Addr × Obj)} (T : ExcC X.K C) (hz : Zc (.ref C) d oe) (hf : ∃ vs, oe.data = .fields vs) : CallR (X.suite a ((a, oe) :: pn)) (.builtin "isinstance") (rIsE2 X.K C a d) := by
  intro pins s σ H xs us Q I r h
  obtain ⟨c, cv, b, rfl, hcv, hd, eb, q⟩ := h
  match us, r with
  | [_, _], .cons rx (.cons rt .nil) =>
    cases rx
    cases hcv _ rt
    have at0 := (I.pin (a, oe) (List.mem_append.mpr (.inl List.mem_cons_self))).1
    obtain ⟨vs, hv⟩ := hf
    obtain ⟨od, J⟩ : ∃ od, PySem.W.InstAt s.heap a oe C od := by
      obtain ⟨oc, od0, oda, osl⟩ := oe
      obtain ⟨h1, h2⟩ := hz
      dsimp only at h1 h2 hv
      subst h1 h2 hv
      rcases hd with rfl | ⟨dd, fs, rfl, hH⟩
      · exact ⟨none, at0, rfl, rfl, trivial⟩
      · obtain ⟨o, ho⟩ := objOk_get (I.hok dd _ hH)
        exact ⟨some o, at0, rfl, rfl, ho⟩
    have hcl : (PySem.W.clsIn X.K C).isSome = true := by
      have := T.hd
      unfold PySem.W.hasDictIn at this
      cases e : PySem.W.clsIn X.K C with
      | none => rw [e] at this; cases this
      | some _ => rfl
    exact PySem.W.kia_one (PySem.W.kitx_exc hcl T.hg T.hk T.hs T.ha T.hn T.ht T.hm) I.kIn J eb (fun z => nomatch z) fun tk => ⟨.bl b, H, I.kept (t' := tk) fun _ _ z => z, rfl, q⟩
def fIsE (i c : Nat) (b : Bool) : Rho → Rs D := fun ρ => match ρ[i]? with
  | some (.ex er) => if er.c = c then .ok (.bool b) else .stuck
  | _ => .stuck
section
variable {S : Sx}
/-- isinstance(n, P), n the error of the class c that the suite holds; its class is known there -/
theorem xisE {C a : Addr} {n Pn : Str} {oe : Obj} {cls : Value} {d : Option Addr} {pn : List (Addr × Obj)} {i c : Nat} {b : Bool} {p p1 p2 pos : Pos} {cv : Value} {cvV : V} (hm : S.X.mg "isinstance" = none) (T : ExcC S.X.K C) (hca : S.ca c = C) (hz : Zc cls d oe) (hf : ∃ vs, oe.data = .fields vs)
    (hv : PE (S.X.suite a ((a, oe) :: pn)) (.Name n p1) (tVar i)) (hP : PE (S.X.suite a ((a, oe) :: pn)) (.Name Pn p2) (tC cvV)) (hr : ∀ u, RelV cvV u → u = cv) (hk : PySem.W.kitOne S.X.K (.ref C) cv = some b) (hg : Gl S.X "isinstance" := by rfl)
    (he : starEach (.Name n p1 :: [.Name Pn p2]) S.X.env = (false, eval (.Name n p1) S.X.env) :: starEach [.Name Pn p2] S.X.env := by rfl) (he2 : starEach (.Name Pn p2 :: []) S.X.env = (false, eval (.Name Pn p2) S.X.env) :: starEach [] S.X.env := by rfl) (hpl : (backTo pos (starEach [.Name Pn p2] S.X.env)).any (·.1) = false := by rfl) :
    XX (S.su a oe pn cls d) .e (.Call (.Name "isinstance" p) [.Name n p1, .Name Pn p2] [] pos) (fIsE i c b) := by
  -- the class of the error is only known where the slot tells it: by cases outside
  by_cases hcls : cls = .ref C
  · subst hcls
    exact ⟨_, pe_callB (X := S.X.suite a ((a, oe) :: pn)) (call_isE2 T hz hf) hg hm (by decide +kernel) (pa_cons hv (pa_cons hP pa_nil he2) he) (he := he) (hpl := hpl), fun H0 G0 σ H G ρ Q q w => by
      unfold fIsE at w
      split at w
      · rename_i er e
        obtain ⟨ov, e1, a', cls', dd, x1, x2, x3⟩ := q.sl i _ e
        cases x1
        subst x2
        split at w
        · refine ⟨_, e1, ?_⟩
          refine ⟨cvV, cv, b, rfl, hr, ?_, hk, wp_ok w _ H G (Step.refl q.st.sub) (.bl b)⟩
          obtain ⟨y1, y2 | ⟨dd', vs, y2, y3, y4, y5⟩⟩ := x3
          · exact .inl y2.2
          · exact .inr ⟨dd', _, y2, q.st.sub _ _ y4⟩
        · exact w.elim
      · exact w.elim⟩
  · refine ⟨fun _ _ _ => False, ⟨fun _ _ _ _ _ _ z => z.elim⟩, fun H0 G0 σ H G ρ Q q w => ?_⟩
    unfold fIsE at w
    split at w
    · rename_i er e
      obtain ⟨ov, e1, a', cls', dd, x1, x2, x3⟩ := q.sl i _ e
      cases x1
      split at w
      · rename_i hc
        refine hcls ?_
        rw [← hca, ← hc]
        exact x3.1
      · exact w.elim
    · exact w.elim
end
/-! ### min of three ints -/
def sMin3 : List D → Rs D
  | [.int a, .int b, .int c] => .ok (.int (if b < a then (if c < b then c else b) else (if c < a then c else a)))
  | _ => .stuck
theorem nx_min3 (l : List D) : NoX (sMin3 l) := by unfold sMin3; split <;> first | exact noX_ok _ | exact noX_stuck
theorem call_min3 {X : Cx} (hc : X.calm = true) : CallR X (.builtin "min") (fun xs H Q => ∃ a b c, xs = [.int a, .int b, .int c] ∧ Q (.int (if b < a then (if c < b then c else b) else (if c < a then c else a))) H) := by
  intro pins s σ H xs us Q I r h
  obtain ⟨a, b, c, rfl, q⟩ := h
  match us, r with
  | [_, _, _], .cons ⟨t1, h1⟩ (.cons ⟨t2, h2⟩ (.cons ⟨t3, h3⟩ .nil)) =>
    subst h1 h2 h3
    refine min_three_ints (I.ok.hd hc) fun h' tk k => ⟨_, H, I.kept k, ?_, q⟩
    split
    · split <;> exact ⟨_, rfl⟩
    · split <;> exact ⟨_, rfl⟩
theorem xmin3 {S : Sx} {e e2 e3 : Expr} {p pos : Pos} {g : Rho → Rs (List D)} (hc : S.X.calm = true) (hm : S.X.mg "min" = none) (h : XA S .b [e, e2, e3] g) (hg : Gl S.X "min" := by rfl) (he : starEach (e :: [e2, e3]) S.X.env = (false, eval e S.X.env) :: starEach [e2, e3] S.X.env := by rfl) (hpl : (backTo pos (starEach [e2, e3] S.X.env)).any (·.1) = false := by rfl) :
    XX S .e (.Call (.Name "min" p) [e, e2, e3] [] pos) (fCl sMin3 g) :=
  let ⟨_, a1, a2⟩ := h
  ⟨_, pe_callB (call_min3 hc) hg hm (by decide +kernel) a1 (he := he) (hpl := hpl), tv_cb (ki := .b) nx_min3 (fun H G vs ds Q s hx w => by
    unfold sMin3 at w
    split at w
    · cases hx with
      | cons r1 r2 => cases r2 with
        | cons r2 r3 => cases r3 with
          | cons r3 r4 =>
            cases r4
            cases Rp.int_inv r1
            cases Rp.int_inv r2
            cases Rp.int_inv r3
            exact ⟨_, _, _, rfl, wp_ok w _ H G (Step.refl s) (.int _)⟩
    · exact w.elim) a2⟩
end Ct

namespace Ct
open PySem PySem.Spec PyProof.Rows L2

/-- the error classes' attributes: InvalidPeriod, SetupAboveCap, NoPeriods, TooManyOrders, InvalidOrder, Shortage, Excess, InvalidEnding, NotForced, NotSafe, Finished, PlanError -/
def cfG : Nat → List Str
  | 0 => ["index"]
  | 1 => ["index"]
  | 4 => ["index"]
  | 5 => ["index", "amount"]
  | 6 => ["amount"]
  | 9 => ["continuation"]
  | _ => []
/-- a class with attributes, whole -/
def ExF (prog : Program) (K : PySem.W.Frag) (mg : Str → Option Value) (C : Addr) (x : Str) (fs : List Str) : Prop := ∃ fI body, ExTxt prog K mg C fI x fs body ∧ ∀ w, InitOk prog w K mg C fI fs.length fs
section
variable {S : Sx} {kd : Kd}
theorem xs_raiseX {nm : Str} {fs : List Str} {c k : Nat} {e : Expr} {es : List Expr} {g : Rho → Rs (List D)} {p pos pos2 : Pos} (hc : S.X.calm = true) (tk : Takes S.X S.W) (T : ExF S.X.prog S.X.K S.X.mg (S.ca c) nm fs)
    (hcf : S.cf c = fs) (hr : Room k S.X.A) (ha : XA S .e (e :: es) g) (hfs : fs.length = (e :: es).length) (hsz : fs.length ≤ sizeLine) (hlen : ∀ ρ ds, g ρ = .ok ds → ds.length = fs.length) (hg : Gl S.X nm := by rfl) (hdb : (nm == ("__debug__" : Str)) = false := by decide)
    (he : starEach (e :: es) S.X.env = (false, eval e S.X.env) :: starEach es S.X.env := by rfl) (hpl : (backTo pos (starEach es S.X.env)).any (·.1) = false := by rfl) : XS S kd (.Raise (some (.Call (.Name nm p) (e :: es) [] pos)) none pos2) (fRaise c g) := by
  obtain ⟨fI, body, T, IO⟩ := T
  exact xs_raise hc tk T (IO _) rfl hcf hr ha hfs hsz hg hdb hlen he hpl
theorem xexfX {a : Addr} {nm f n : Str} {fs : List Str} {oe : Obj} {cls : Value} {d : Option Addr} {pn : List (Addr × Obj)} {i c j : Nat} {pos p : Pos} (T : ExF S.X.prog S.X.K S.X.mg (S.ca c) nm fs) (hcf : S.cf c = fs) (nd : fs.Nodup) (hj : fs[j]? = some f) (hz : Zc cls d oe) (hdt : ∃ vs, oe.data = .fields vs)
    (hv : PE (S.X.suite a ((a, oe) :: pn)) (.Name n p) (tVar i)) (hb : attributeBase (.Name n p) f S.X.env (eval (.Name n p) S.X.env) = eval (.Name n p) S.X.env := by rfl) : XX (S.su a oe pn cls d) .e (.Attribute (.Name n p) f pos) (fExF i c j) := by
  obtain ⟨fI, body, T, IO⟩ := T
  exact xexf T rfl hcf nd hj hz hdt hv hb
theorem xisEX {a : Addr} {n Pn : Str} {oe : Obj} {cls : Value} {d : Option Addr} {pn : List (Addr × Obj)} {i c : Nat} {b : Bool} {p p1 p2 pos : Pos} {cv : Value} {cvV : V} (hm : S.X.mg "isinstance" = none) (T : ExcC S.X.K (S.ca c)) (hz : Zc cls d oe) (hf : ∃ vs, oe.data = .fields vs)
    (hv : PE (S.X.suite a ((a, oe) :: pn)) (.Name n p1) (tVar i)) (hP : PE (S.X.suite a ((a, oe) :: pn)) (.Name Pn p2) (tC cvV)) (hr : ∀ u, RelV cvV u → u = cv) (hk : PySem.W.kitOne S.X.K (.ref (S.ca c)) cv = some b) (hg : Gl S.X "isinstance" := by rfl)
    (he : starEach (.Name n p1 :: [.Name Pn p2]) S.X.env = (false, eval (.Name n p1) S.X.env) :: starEach [.Name Pn p2] S.X.env := by rfl) (he2 : starEach (.Name Pn p2 :: []) S.X.env = (false, eval (.Name Pn p2) S.X.env) :: starEach [] S.X.env := by rfl) (hpl : (backTo pos (starEach [.Name Pn p2] S.X.env)).any (·.1) = false := by rfl) :
    XX (S.su a oe pn cls d) .e (.Call (.Name "isinstance" p) [.Name n p1, .Name Pn p2] [] pos) (fIsE i c b) := xisE hm T rfl hz hf hv hP hr hk hg he he2 hpl
end
section
variable {P : Program} {w : World} {K : PySem.W.Frag} {mg : Str → Option Value} {base : Heap} {N : List Str} {qual : Str} {sc : Scope} {f : Addr} {cd : Value} {A : Around} {outer : List PySem.Env} {s : Shared} {H : Hp} {E : XK}
theorem tk_of : Takes (cxOf (L2.CX P w) P w K mg base N qual sc f cd A outer s H E) (fun cls d _ H => E cls d H) := takes_of rfl rfl rfl rfl
theorem pa_of : PassesOwn (model P w) (cxOf (L2.CX P w) P w K mg base N qual sc f cd A outer s H E).A (cxOf (L2.CX P w) P w K mg base N qual sc f cd A outer s H E).env (cxOf (L2.CX P w) P w K mg base N qual sc f cd A outer s H E).xe := passes_of (X := cxOf (L2.CX P w) P w K mg base N qual sc f cd A outer s H E) rfl
end
/-- nothing is done by a def that is stuck -/
theorem ok_stuck {P : Program} {w : World} {K : PySem.W.Frag} {mg : Str → Option Value} {base : Heap} {k : Nat} {a : Addr} {fd : FuncData} {ps : List Str} {ca : Nat → Addr} {cf : Nat → List Str} {kd : Kd} : FnOk P w K mg base (L2.CX P w) k a fd ps (SpF ca cf kd ps.length fun _ => .stuck) where
  len := fun vs H Q E h => h.1
  run := fun A outer s H args us vs Q E _ _ _ _ h => by
    obtain ⟨_, _, _, _, _, w⟩ := h
    exact w.elim
def caOf (l : List Addr) : Nat → Addr := fun n => l.getD n 0
end Ct

namespace Ct
open PySem PySem.W PySem.Calls PySem.Spec PyProof.Rows L2

theorem scpOk1 {f : Str} (h : (iScope ["self", f]).names.lookup ("super" : Str) = some .globalImplicit) (h2 : (iScope ["self", f]).names.lookup ("__class__" : Str) = some .free) (h3 : (iScope ["self", f]).names.lookup f = some .local) (h4 : (("self" : Str) == f) = false) (h5 : (f == ("__debug__" : Str)) = false) : ScpOk [f] where
  l1 := h
  l2 := h2
  l3 := fun x hx => by
    cases List.mem_singleton.mp hx
    exact h3
  l4 := rfl
  cells := fun y hy => by
    rcases List.mem_cons.mp hy with rfl | hy
    · exact NameKind.noConfusion
    · rcases List.mem_cons.mp hy with rfl | hy
      · exact NameKind.noConfusion
      · rcases List.mem_cons.mp hy with rfl | hy
        · exact NameKind.noConfusion
        · rcases List.mem_cons.mp hy with rfl | hy
          · exact NameKind.noConfusion
          · cases hy
  nself := fun x hx => by
    cases List.mem_singleton.mp hx
    exact h4
  ndbg := fun x hx => by
    cases List.mem_singleton.mp hx
    exact h5
/-- a class with one attribute, from what is written -/
theorem mk_exF1 {P : Program} {K : Frag} {mg : Str → Option Value} {hh : Heap} {C fI : Addr} {nmC f msg : Str} {j : Nat} {p0 p1 p2 p3 p4 p5 q1 q2 q3 q4 s1 s2 : Pos} (X : K.In hh) (G : hh.Ns mainGlobals mg)
    {nm q : Str} {N : Addr} {bs bm : List Value} {sn : List Str} {sub : List Value} {ab : Bool} {col : Option Bool} {dd : Option Addr} {k0 k1 k2 k3 k5 : Option Value}
    {oc : Value} {od : Option Addr} {qual : Str} {kV doc pm : Value} {an : Option Addr} {cda : Addr} {ct : Value} {cc : Addr} {osl : Array (Option Value)} {ccl cl : Value} {cdd cld : Option Addr} {vs : Array Value} {ccs csl : Array (Option Value)} {file : Str} {tf : Tok}
    (gC : nsIn K mainGlobals nmC = some (some (.ref C))) (lC : K.lookup C = some (excClassObj nm q C N bs bm true sn sub ab col dd k0 k1 k2 k3 k5 "ValueError.__new__"))
    (sa : findIn K (.ref C) "__setattr__" = some (some (.builtin "object.__setattr__"))) (ga : findIn K (.ref C) "__getattribute__" = some (some (.builtin "BaseException.__getattribute__"))) (gg : findIn K (.ref C) "__getattr__" = some none) (nf : findIn K (.ref C) f = some none)
    (iC : findIn K (.ref C) "__init__" = some (some (.ref fI))) (tC : typeIn K (.ref fI) = some (.type "function")) (kC : keepIn K (.ref C) = true) (eC : subIn K (.ref C) (.type "BaseException") = some true) (vC : subIn K (.ref C) (.type "ValueError") = some true)
    (yC : typeIn K (.ref C) = some (.type "type")) (hC : hasDictIn K C = true) (mC : mroIn K C (.ref C) = some true) (oq : nsIn K cStatics "thirdparty.any" = some none) (sG : nsIn K mainGlobals "super" = some none)
    (lI : K.lookup fI = some ⟨oc, od, .func (ksFn "__init__" qual (iArgs [("self", s1), (f, s2)]) [iSup msg j p0 p1 p2 p3 p4 p5, iAsg f q1 q2 q3 q4] (iScope ["self", f]) .none kV doc pm an (.ref cda) ct cc), osl⟩)
    (cI : codeIn K (.ref cda) qual = true) (lD : K.lookup cda = some ⟨ccl, cdd, .fields vs, ccs⟩) (lE : K.lookup cc = some ⟨cl, cld, .cell (some (.ref C)), csl⟩)
    (sI : ks_superIn K C C "__init__" = some (some (.builtin "ValueError.__init__")))
    (vD : vs[2]? = some (.str file tf)) (fl : ((P.main.file : Str) == file) = true) (tp : (P.main.scope.names.lookup ("super" : Str)).isSome = false) (rb : PySem.HandSPX.refsVE bm = true) (so : SupOk ["self", f] fI msg j p0 p1 p2 p3 p4) (bo : BndOk [f] [iSup msg j p0 p1 p2 p3 p4 p5, iAsg f q1 q2 q3 q4]) (ao : AsgOk ["self", f] fI f q1 q2 q3 q4) (sc : ScpOk [f]) :
    ExF P K mg C nmC [f] := by
  have T : ExTxt P K mg C fI nmC [f] [iSup msg j p0 p1 p2 p3 p4 p5, iAsg f q1 q2 q3 q4] :=
    { gC := mg_of X G gC, cls := ⟨nm, q, N, bs, bm, sn, sub, ab, col, dd, k0, k1, k2, k3, k5, lC, rb⟩, sa := sa, ga := ga, gg := gg
      noF := fun x hx => by
        cases List.mem_singleton.mp hx
        exact nf
      iC := iC, tC := tC, kC := kC, exC := eC, veC := vC, tyC := yC, hdC := hC, mC := mC, supI := sI, opq := oq, supG := mg_none_of X G sG, top := tp
      fn := ⟨oc, od, qual, [s1, s2], .none, kV, doc, pm, an, cda, ct, cc, osl, ccl, cl, cdd, cld, vs, ccs, csl, file, tf, rfl, lI, cI, lD, vD, fl, lE⟩ }
  exact ⟨fI, _, T, fun w => initOk1 T so ao sc bo⟩
theorem cx_nil {P : Program} {w : World} {H : Hp} {s : Shared} {e : Value} {s' : Shared} (h : L2.CX P w [] H s (fun _ _ _ => False) e s') : False := by
  obtain ⟨_, _, _, _, _, _, _, _, _, _, _, _, z⟩ := h
  exact z
/-- the law's promise: of a script of at most n numbers it is True -/
def spLw (K : PySem.W.Frag) (n : Nat) : Sp := fun vs H Q _ => ∃ (a : Addr) (ns : List Int), vs = [.ref a] ∧ SqL K H a (ns.map V.int) ∧ ns.length ≤ n ∧ (∀ z ∈ ns, Builtin.Int.intBits z ≤ 1048576) ∧ Only H ∧ ∀ H', Q (.bl true) H'
def scriptD (ns : List Int) : D := .dict [(.bool true, .list (ns.map PyData.int))]
theorem rpl_ints {G : Hp} : ∀ ns : List Int, RpL G (ns.map V.int) (ns.map PyData.int)
  | [] => .nil
  | n :: ns => .cons (.int n) (rpl_ints ns)
/-- no object of the written part is a list -/
def NoLst (K : Frag) : Prop := K.all (fun p => match p.2.cls with | .type s => !(s == "list") | _ => true) = true
theorem look_mem {K : Frag} {a : Addr} {o : Obj} (h : K.lookup a = some o) : (a, o) ∈ K := by
  induction K with
  | nil => cases h
  | cons p r ih =>
    obtain ⟨b, o2⟩ := p
    by_cases e : a == b
    · rw [List.lookup_cons, e] at h
      cases h
      rw [LawfulBEq.eq_of_beq e]
      exact List.mem_cons_self
    · rw [List.lookup_cons, Bool.eq_false_iff.mpr e] at h
      exact List.mem_cons_of_mem _ (ih h)
theorem sp_lw {K : Frag} {ca : Nat → Addr} {n : Nat} {f : List D → Rs D} (nl : NoLst K) (hf : ∀ ns : List Int, ns.length ≤ n → (∀ z ∈ ns, Builtin.Int.intBits z ≤ 1048576) → f [scriptD ns] = .ok (.bool true)) {vs : List V} {H : Hp} {Q : VK} {E : XK} (h : spLw K n vs H Q E) : SpF ca cfG .e 1 f vs H Q E := by
  obtain ⟨a, ns, rfl, hS, hl, hb, hO, q⟩ := h
  have ha : ∃ o, H a = some (.frz o (.lst (ns.map V.int))) := by
    rcases hS with (h | ⟨o, h⟩) | ⟨o, its, m, h, hc, _⟩
    · rcases hO a with z | ⟨_, _, z⟩
      · rw [h] at z; cases z
      · rw [h] at z; cases z
    · exact ⟨o, h⟩
    · have z := List.all_eq_true.mp nl _ (look_mem h)
      rw [show (a, o).2.cls = .type "list" from hc] at z
      exact absurd z (by decide)
  obtain ⟨o, ha⟩ := ha
  refine ⟨rfl, H, [scriptD ns], Same.refl _, .cons (.scr ha (rpl_ints ns)) .nil, ?_⟩
  rw [hf ns hl hb]
  intro v H' G' _ r
  have r : Rp G' v (.bool true) := r
  cases Rp.bl_inv r
  exact q H'
/-- THE END -/
theorem law_end {P : Program} {w : World} {K : Frag} {mg : Str → Option Value} {base : Heap} {ca : Nat → Addr} {k n : Nat} {fa : Addr} {fd : FuncData} {f : List D → Rs D} (F : FnOk P w K mg base (L2.CX P w) k fa fd ["_law_script"] (SpF ca cfG .e 1 f)) (nl : NoLst K)
    (hf : ∀ ns : List Int, ns.length ≤ n → (∀ z ∈ ns, Builtin.Int.intBits z ≤ 1048576) → f [scriptD ns] = .ok (.bool true)) : FnOk P w K mg base (L2.CX P w) k fa fd ["_law_script"] (spLw K n) := F.imp fun _ _ _ _ h => sp_lw nl hf h
theorem binds_kw {K : Frag} {fd : FuncData} {p y : Str} (h : ∀ (s : Shared) (u v : Value), BindsTo s fd ⟨[u], [(y, v)]⟩ [(p, u), (y, v)]) : BindK K fd [p, y] y := fun s us u _ hl => match us, hl with
  | [a], _ => h s a u
theorem vals_non {ds : List Value} (h : Vals [.non] ds) : True := trivial
theorem bindD_none {K : Frag} {fd : FuncData} {ps : List Str} (h : ∃ ds, Vals [.non] ds ∧ Binds K fd ps ds) : BindD K fd ps .none := let ⟨ds, h1, h2⟩ := h; ⟨ds, .non, fun _ => .non, h1, h2⟩
theorem bindD_zero {K : Frag} {fd : FuncData} {ps : List Str} (h : ∃ ds, Vals [.int 0] ds ∧ Binds K fd ps ds) : BindD K fd ps (.int 0) := let ⟨ds, h1, h2⟩ := h; ⟨ds, .int 0, fun _ => .int 0, h1, h2⟩
theorem df_mk {P : Program} {w : World} {K : Frag} {mg : Str → Option Value} {base : Heap} {ca : Nat → Addr} {cf : Nat → List Str} {k m : Nat} {x : Str} {a : Addr} {fd : FuncData} {ps : List Str} {kd : Kd} {f : List D → Rs D} (ok : FnOk P w K mg base (L2.CX P w) k a fd ps (SpF ca cf kd m f)) (hm : m = ps.length) (gm : mg x = some (.ref a)) (kp : keepIn K (.ref a) = true) (len : ∀ ds, ds.length ≠ ps.length → f ds = .stuck) : Df P w K mg base ca cf k x a fd ps kd f := by
  subst hm
  exact ⟨ok, gm, kp, len⟩
end Ct

namespace Ct
open PySem PySem.W PySem.Calls PySem.Spec PyProof.Rows L2

theorem mem2 {α : Type} {x a b : α} (h : x ∈ [a, b]) : x = a ∨ x = b := by
  rcases List.mem_cons.mp h with h | h
  · exact .inl h
  · exact .inr (List.mem_singleton.mp h)
theorem scpOk2 {f f2 : Str} (h : (iScope ["self", f, f2]).names.lookup ("super" : Str) = some .globalImplicit) (h2 : (iScope ["self", f, f2]).names.lookup ("__class__" : Str) = some .free) (h3 : (iScope ["self", f, f2]).names.lookup f = some .local) (h3b : (iScope ["self", f, f2]).names.lookup f2 = some .local) (h4 : (("self" : Str) == f) = false) (h4b : (("self" : Str) == f2) = false) (h5 : (f == ("__debug__" : Str)) = false) (h5b : (f2 == ("__debug__" : Str)) = false) : ScpOk [f, f2] where
  l1 := h
  l2 := h2
  l3 := fun x hx => by
    rcases mem2 hx with rfl | rfl
    · exact h3
    · exact h3b
  l4 := rfl
  cells := fun y hy => by
    rcases List.mem_cons.mp hy with rfl | hy
    · exact NameKind.noConfusion
    · rcases List.mem_cons.mp hy with rfl | hy
      · exact NameKind.noConfusion
      · rcases List.mem_cons.mp hy with rfl | hy
        · exact NameKind.noConfusion
        · rcases List.mem_cons.mp hy with rfl | hy
          · exact NameKind.noConfusion
          · rcases List.mem_cons.mp hy with rfl | hy
            · exact NameKind.noConfusion
            · cases hy
  nself := fun x hx => by
    rcases mem2 hx with rfl | rfl
    · exact h4
    · exact h4b
  ndbg := fun x hx => by
    rcases mem2 hx with rfl | rfl
    · exact h5
    · exact h5b
/-- a class with two attributes, from what is written -/
theorem mk_exF2 {P : Program} {K : Frag} {mg : Str → Option Value} {hh : Heap} {C fI : Addr} {nmC f f2 msg : Str} {j : Nat} {p0 p1 p2 p3 p4 p5 q1 q2 q3 q4 r1 r2 r3 r4 s1 s2 s3 : Pos} (X : K.In hh) (G : hh.Ns mainGlobals mg)
    {nm q : Str} {N : Addr} {bs bm : List Value} {sn : List Str} {sub : List Value} {ab : Bool} {col : Option Bool} {dd : Option Addr} {k0 k1 k2 k3 k5 : Option Value}
    {oc : Value} {od : Option Addr} {qual : Str} {kV doc pm : Value} {an : Option Addr} {cda : Addr} {ct : Value} {cc : Addr} {osl : Array (Option Value)} {ccl cl : Value} {cdd cld : Option Addr} {vs : Array Value} {ccs csl : Array (Option Value)} {file : Str} {tf : Tok}
    (gC : nsIn K mainGlobals nmC = some (some (.ref C))) (lC : K.lookup C = some (excClassObj nm q C N bs bm true sn sub ab col dd k0 k1 k2 k3 k5 "ValueError.__new__"))
    (sa : findIn K (.ref C) "__setattr__" = some (some (.builtin "object.__setattr__"))) (ga : findIn K (.ref C) "__getattribute__" = some (some (.builtin "BaseException.__getattribute__"))) (gg : findIn K (.ref C) "__getattr__" = some none) (nf : findIn K (.ref C) f = some none) (ng : findIn K (.ref C) f2 = some none)
    (iC : findIn K (.ref C) "__init__" = some (some (.ref fI))) (tC : typeIn K (.ref fI) = some (.type "function")) (kC : keepIn K (.ref C) = true) (eC : subIn K (.ref C) (.type "BaseException") = some true) (vC : subIn K (.ref C) (.type "ValueError") = some true)
    (yC : typeIn K (.ref C) = some (.type "type")) (hC : hasDictIn K C = true) (mC : mroIn K C (.ref C) = some true) (oq : nsIn K cStatics "thirdparty.any" = some none) (sG : nsIn K mainGlobals "super" = some none)
    (lI : K.lookup fI = some ⟨oc, od, .func (ksFn "__init__" qual (iArgs [("self", s1), (f, s2), (f2, s3)]) [iSup msg j p0 p1 p2 p3 p4 p5, iAsg f q1 q2 q3 q4, iAsg f2 r1 r2 r3 r4] (iScope ["self", f, f2]) .none kV doc pm an (.ref cda) ct cc), osl⟩)
    (cI : codeIn K (.ref cda) qual = true) (lD : K.lookup cda = some ⟨ccl, cdd, .fields vs, ccs⟩) (lE : K.lookup cc = some ⟨cl, cld, .cell (some (.ref C)), csl⟩)
    (sI : ks_superIn K C C "__init__" = some (some (.builtin "ValueError.__init__")))
    (vD : vs[2]? = some (.str file tf)) (fl : ((P.main.file : Str) == file) = true) (tp : (P.main.scope.names.lookup ("super" : Str)).isSome = false) (rb : PySem.HandSPX.refsVE bm = true) (so : SupOk ["self", f, f2] fI msg j p0 p1 p2 p3 p4) (bo : BndOk [f, f2] [iSup msg j p0 p1 p2 p3 p4 p5, iAsg f q1 q2 q3 q4, iAsg f2 r1 r2 r3 r4]) (ao : AsgOk ["self", f, f2] fI f q1 q2 q3 q4) (ao2 : AsgOk ["self", f, f2] fI f2 r1 r2 r3 r4) (ff : (f == f2) = false) (sc : ScpOk [f, f2]) :
    ExF P K mg C nmC [f, f2] := by
  have T : ExTxt P K mg C fI nmC [f, f2] [iSup msg j p0 p1 p2 p3 p4 p5, iAsg f q1 q2 q3 q4, iAsg f2 r1 r2 r3 r4] :=
    { gC := mg_of X G gC, cls := ⟨nm, q, N, bs, bm, sn, sub, ab, col, dd, k0, k1, k2, k3, k5, lC, rb⟩, sa := sa, ga := ga, gg := gg
      noF := fun x hx => by
        rcases mem2 hx with rfl | rfl
        · exact nf
        · exact ng
      iC := iC, tC := tC, kC := kC, exC := eC, veC := vC, tyC := yC, hdC := hC, mC := mC, supI := sI, opq := oq, supG := mg_none_of X G sG, top := tp
      fn := ⟨oc, od, qual, [s1, s2, s3], .none, kV, doc, pm, an, cda, ct, cc, osl, ccl, cl, cdd, cld, vs, ccs, csl, file, tf, rfl, lI, cI, lD, vD, fl, lE⟩ }
  exact ⟨fI, _, T, fun w => initOk2 T so ao ao2 sc ff bo⟩
end Ct

namespace PySem
open Sem (wp)
open AutoSeq1 (wpAny_loadPart')
section
variable {prog : Program} {w : World} {A : Around} {E : Value → Shared → Prop} {s : Shared}
/-! list(reversed(list)) -/
theorem ct_extend_rev {R : Result → Shared → Prop} {it l : Addr} {items : Array Value} (hh : A.handled = none) (hit : s.heap.IsRevIter it l ((items.size : Int) - 1)) (hl : s.heap.IsList l items) (hne : l ≠ it) (hn : items.size ≤ sizeLine)
    (S : Addr) (res : Value) (c₀ : Nat) (hS : s.heap.get? S = some { cls := .type "list", data := .seq #[] c₀ }) (hSi : S ≠ it) (hSl : S ≠ l)
    (hR : ∀ h' tk acc' c', (∀ b o, b ≠ S → b ≠ it → s.heap.get? b = some o → h'.get? b = some o) → h'.get? S = some { cls := .type "list", dict := none, data := .seq acc' c', slots := #[] } →
      ItemsOf (fun i v => items[items.size - 1 - i]? = some v) acc' items.size → R (.ok (.ret res)) { s with heap := h', toks := tk }) :
    wpAny (model prog w) A.in1 (Builtin.List.listExtendWith (.ref S) (.ref it) res)
      (fun fin s' => match fin with | .done f => R (.ok f) s' | .again c' => c'.quiet = true ∧ codeAny (model prog w) A c' R s') (fun e s' => R (.error e) s') s := by
  have W := (Walks.listRev (prog := prog) (w := w) (A := A.in1) hh it l hne items).toS
  have hSf : S ∉ [it, l] := by simp only [List.mem_cons, List.not_mem_nil, or_false, not_or]; exact ⟨hSi, hSl⟩
  have hT : s.TypeIs (.ref it) "list_reverseiterator" := hit.typeIs
  have h1 : Builtin.List.listSameRef (.ref S) (.ref it) = false := by simp [Builtin.List.listSameRef, hSi]
  unfold Builtin.List.listExtendWith
  refine wpAny_bind (wpAny_typeOf hT ?_)
  rw [if_neg (by rw [h1]; decide)]
  refine wpAny_bind (wpAny_pyIter_revIter hit ?_)
  refine wpAny_bind (wpAny_holding ?_)
  unfold Builtin.List.listLengthHint
  refine wpAny_bind (wpAny_specialOf hT RT.nolen_lri ?_)
  show wpAny _ A.in1 (specialOf (Value.ref it) (Str.ofString "__length_hint__") >>= _) _ _ _
  refine wpAny_bind (wpAny_specialOf hT RT.hint_lri ?_)
  generalize hid : ("list_reverseiterator.__length_hint__" : String) = id0
  wp_delta
  rw [show splitId id0 = some ("list_reverseiterator", "__length_hint__") from by subst hid; decide +kernel]
  subst hid
  refine wpAny_bind (wpAny_isInstance (b := true) hT (by rw [isSubtype_type]; kernel_rfl) ?_)
  refine wpAny_pure ?_
  rw [if_neg (by decide)]
  have e0 : ((items.size : Nat) : Int) - 1 - ((0 : Nat) : Int) = (items.size : Int) - 1 := by omega
  refine wpAny_pure ⟨plainId_quiet F.plain_extend_loop _, codeAny_extend_loopS W hn _ hSf _ items.size 0 _ _ _ rfl (Nat.zero_le _) ⟨Nat.zero_le _, by rw [e0]; exact hit, hl⟩ hS (ItemsOf.nil _) fun s' acc' c' hm hS' hacc => ?_⟩
  rw [Moved.eq_with hm]
  refine hR s'.heap s'.toks acc' c' (fun b o hb hi e => hm.heap b o (fun hmem => ?_) e) hS' hacc
  rcases List.mem_cons.mp hmem with e' | hmem
  · exact hb e'
  · exact hi (List.mem_singleton.mp hmem)
theorem ct_list_init_rev {R : Result → Shared → Prop} {it l : Addr} {items : Array Value} (hh : A.handled = none) (hit : s.heap.IsRevIter it l ((items.size : Int) - 1)) (hl : s.heap.IsList l items) (hne : l ≠ it) (hn : items.size ≤ sizeLine)
    (S : Addr) (hS : s.heap.get? S = some { cls := .type "list", data := .seq #[] }) (hSi : S ≠ it) (hSl : S ≠ l)
    (hR : ∀ h' tk acc' c', (∀ b o, b ≠ S → b ≠ it → s.heap.get? b = some o → h'.get? b = some o) → h'.get? S = some { cls := .type "list", dict := none, data := .seq acc' c', slots := #[] } →
      ItemsOf (fun i v => items[items.size - 1 - i]? = some v) acc' items.size → R (.ok (.ret .none)) { s with heap := h', toks := tk }) :
    wpAny (model prog w) A.in1 (Builtin.«list.__init__» ⟨[.ref S, .ref it], []⟩)
      (fun fin s' => match fin with | .done f => R (.ok f) s' | .again c' => c'.quiet = true ∧ codeAny (model prog w) A c' R s') (fun e s' => R (.error e) s') s := by
  show wpAny _ _ (do let old ← Builtin.List.listItems (.ref S); Builtin.List.listUpdate (.ref S) (fun _ => #[]); letGo old.toList.reverse; Builtin.List.listExtendWith (.ref S) (.ref it) .none) _ _ s
  refine wpAny_bind ?_
  unfold Builtin.List.listItems
  refine wpAny_bind (wpAny_seqItems hS rfl (wpAny_pure ?_))
  show wpAny _ _ (updateSeq S (fun _ => #[]) >>= fun _ => letGo (#[] : Array Value).toList.reverse >>= fun _ => Builtin.List.listExtendWith (.ref S) (.ref it) .none) _ _ s
  refine wpAny_bind (wpAny_updateSeq hS rfl ?_)
  have hS₂ := Heap.get?_update_self (Obj.mapSeq (fun _ => (#[] : Array Value))) hS rfl
  have oth : ∀ b o, b ≠ S → s.heap.get? b = some o → (s.heap.update S (Obj.mapSeq (fun _ => (#[] : Array Value)))).get? b = some o :=
    fun b o hb e => (Heap.get?_update_other _ _ (Ne.symm hb)).trans e
  refine wpAny_bind (wpAny_letGo ?_)
  have hit2 : (s.heap.update S (Obj.mapSeq (fun _ => (#[] : Array Value)))).IsRevIter it l ((items.size : Int) - 1) := hit.at fun o e => oth it o (Ne.symm hSi) e
  have hl2 : (s.heap.update S (Obj.mapSeq (fun _ => (#[] : Array Value)))).IsList l items := by
    obtain ⟨o, ho, r⟩ := hl
    exact ⟨o, oth l o (Ne.symm hSl) ho, r⟩
  refine ct_extend_rev (s := { s with heap := s.heap.update S (Obj.mapSeq (fun _ => (#[] : Array Value))) }) hh hit2 hl2 hne hn S .none _ hS₂ hSi hSl fun h' tk acc' c' hk hS' hacc => ?_
  exact hR h' tk acc' c' (fun b o hb hi e => hk b o hb hi (oth b o hb e)) hS' hacc
theorem ct_call_list_rev {Q : Value → Shared → Prop} {it l : Addr} {items : Array Value} (hh : A.handled = none) (hit : s.heap.IsRevIter it l ((items.size : Int) - 1)) (hl : s.heap.IsList l items) (hne : l ≠ it) (hn : items.size ≤ sizeLine)
    (hQ : ∀ h' tk acc' c', (∀ b o, b ≠ it → s.heap.get? b = some o → h'.get? b = some o) →
      h'.get? s.heap.objs.size = some { cls := .type "list", dict := none, data := .seq acc' c', slots := #[] } → ItemsOf (fun i v => items[items.size - 1 - i]? = some v) acc' items.size → Q (.ref s.heap.objs.size) { s with heap := h', toks := tk }) :
    wpAny (model prog w) A (call (.type "list") [.ref it]) Q E s := by
  refine callType_codes (Q₁ := fun obj s₁ => obj = .ref s.heap.objs.size ∧ s₁ = { s with heap := s.heap.push { cls := .type "list", data := .seq #[] } }) F.called_list (F.typeCall_list_1 _) F.entry_list_init
    (code_list_new _ ⟨rfl, rfl⟩) fun obj s₁ h₁ => ?_
  obtain ⟨rfl, rfl⟩ := h₁
  have hS : (s.heap.push { cls := .type "list", data := .seq #[] }).get? s.heap.objs.size = some { cls := .type "list", data := .seq #[] } := Heap.get?_push_size _ rfl
  obtain ⟨oi, hoi, _⟩ := id hit
  obtain ⟨ol, hol, _⟩ := id hl
  have hSi : s.heap.objs.size ≠ it := Nat.ne_of_gt (Heap.lt_size hoi)
  have hSl : s.heap.objs.size ≠ l := Nat.ne_of_gt (Heap.lt_size hol)
  refine ⟨⟨_, hS, rfl⟩, F.args_list_init_2 _ _, ct_list_init_rev (A := A.in1) (s := { s with heap := s.heap.push { cls := .type "list", data := .seq #[] } }) hh (hit.at fun o e => Heap.get?_push_of_some _ e) (hl.push _) hne hn _ hS hSi hSl fun h' tk acc' c' hk hS' hacc => ?_⟩
  exact ⟨rfl, hQ h' tk acc' c' (fun b o hb e => hk b o (Nat.ne_of_lt (Heap.lt_size e)) hb (Heap.get?_push_of_some _ e)) hS' hacc⟩
end
end PySem

namespace Ct
open PySem PySem.Spec PyProof.Rows L2
/-- list(reversed(x)), x a list: a new list -/
def tLstRev (K : PySem.W.Frag) (te : TE) : TE := fun σ H Q => te σ H fun v H1 => ∃ (a : Addr) (xs : List V), v = .ref a ∧ SqL K H1 a xs ∧ ∀ q, H1 q = none → Q (.ref q) (upd H1 q (.lst xs.reverse))
theorem pe_lstRev {X : Cx} {e : Expr} {te : TE} {p p2 pos pos2 : Pos} (hc : X.calm = true) (hg : Gl X "list") (hm : X.mg "list" = none) (hg2 : Gl X "reversed") (hm2 : X.mg "reversed" = none) (he : PE X e te)
    (hs : starEach [e] X.env = (false, eval e X.env) :: starEach [] X.env := by rfl)
    (hs2 : starEach [.Call (.Name "reversed" p2) [e] [] pos2] X.env = (false, eval (.Call (.Name "reversed" p2) [e] [] pos2) X.env) :: starEach [] X.env := by rfl) :
    PE X (.Call (.Name "list" p) [.Call (.Name "reversed" p2) [e] [] pos2] [] pos) (tLstRev X.K te) := by
  refine ⟨fun pins s σ H Q I h => ?_⟩
  refine Call_ (ld_blt I hg hm boot_list (PyProof.Rows.callWith_type1 (args_cons (Call_ (ld_blt I hg2 hm2 PyProof.Rows.boot_reversed (PyProof.Rows.callWith_type1 (args_cons (thn (he.run pins s σ H _ I h) fun u s1 ⟨v, H1, I1, r1, q1⟩ => args_nil ?_) hs) hs rfl))) hs2) hs2 rfl))
  obtain ⟨a, xs, ev, hq, q⟩ := q1
  subst ev
  obtain rfl : u = Value.ref a := r1
  obtain ⟨its, rv, p', hz⟩ := I1.list hq
  refine call_reversed_list p'.isList (args_nil ?_)
  have k0 : ∀ b o, s1.heap.get? b = some o → (s1.heap.push (revObj a ((its.toArray.size : Int) - 1))).get? b = some o := fun b o e => Heap.get?_push_of_some _ e
  have hl := p'.isList
  obtain ⟨ol, hol, _⟩ := id hl
  have hne : a ≠ s1.heap.objs.size := Nat.ne_of_lt (Heap.lt_size hol)
  have hn : its.toArray.size ≤ sizeLine := by rw [List.size_toArray, ← rv.length]; exact hz
  refine ct_call_list_rev (s := { s1 with heap := s1.heap.push (revObj a ((its.toArray.size : Int) - 1)) }) (I1.ok.hd hc) ⟨_, Heap.get?_push_size _ rfl, rfl, rfl⟩ (hl.push _) hne hn fun h' tk acc c' hk e' hi => ?_
  have kk : ∀ b o, s1.heap.get? b = some o → h'.get? b = some o := fun b o e => hk b o (Nat.ne_of_lt (Heap.lt_size e)) (k0 b o e)
  have le : s1.heap.objs.size ≤ (s1.heap.push (revObj a ((its.toArray.size : Int) - 1))).objs.size := by simp [Heap.push]
  refine ⟨.ref (s1.heap.push (revObj a ((its.toArray.size : Int) - 1))).objs.size, upd H1 (s1.heap.push (revObj a ((its.toArray.size : Int) - 1))).objs.size (.lst xs.reverse), I1.laid (t' := tk) kk le (show ObjOk X.prog X.w _ _ _ (.lst xs.reverse) from ⟨by rw [List.length_reverse]; exact hz, acc.toList, c', RT.vals_rev rv hi, ?_⟩), rfl, q _ (I1.hok.fresh le)⟩
  rw [Array.toArray_toList]
  exact e'
def kLR (d : D) : Rs D := match d with
  | .list ds => .ok (.list ds.reverse)
  | _ => .stuck
def fLstRev (f : Rho → Rs D) : Rho → Rs D := fun ρ => (f ρ).bind kLR
theorem xlistRev {S : Sx} {e : Expr} {f : Rho → Rs D} {p p2 pos pos2 : Pos} (hc : S.X.calm = true) (hm : S.X.mg "list" = none) (hm2 : S.X.mg "reversed" = none) (h : XX S .e e f) (hg : Gl S.X "list" := by rfl) (hg2 : Gl S.X "reversed" := by rfl)
    (hs : starEach [e] S.X.env = (false, eval e S.X.env) :: starEach [] S.X.env := by rfl)
    (hs2 : starEach [.Call (.Name "reversed" p2) [e] [] pos2] S.X.env = (false, eval (.Call (.Name "reversed" p2) [e] [] pos2) S.X.env) :: starEach [] S.X.env := by rfl) :
    XX S .o (.Call (.Name "list" p) [.Call (.Name "reversed" p2) [e] [] pos2] [] pos) (fLstRev f) :=
  let ⟨_, a1, a2⟩ := h
  ⟨_, pe_lstRev hc hg hm hg2 hm2 a1 hs hs2, fun H0 G0 σ H G ρ Q q w => by
    refine a2 H0 G0 σ H G ρ _ q (Wp.imp (Wp.bind w) (fun d wd v H1 G1 s1 r1 => ?_) fun _ z => z)
    cases d with
    | list ds =>
      obtain ⟨a, xs, rfl, h1, h2⟩ := Rp.lst_inv r1
      refine ⟨a, xs, rfl, .of (s1.sub _ _ h1), fun n hn => ?_⟩
      exact wp_ok wd _ _ G1 (s1.trans (Step.newO s1.sub hn)) ⟨n, _, _, rfl, rfl, upd_same, Same.free s1.hh hn, Same.free s1.sub hn, h2.reverse⟩
    | _ => exact wd.elim⟩
end Ct

namespace Ct
open PySem PySem.Spec PyProof.Rows L2
/-- isinstance of an error that is one of some classes -/
def fIsL (i : Nat) (l : List (Nat × Bool)) : Rho → Rs D := fun ρ => match ρ[i]? with
  | some (.ex er) => (match l.find? (fun p => p.1 == er.c) with
    | some p => .ok (.bool p.2)
    | none => .stuck)
  | _ => .stuck
inductive EcL (K : PySem.W.Frag) (ca : Nat → Addr) (cv : Value) : List (Nat × Bool) → Prop
  | nil : EcL K ca cv []
  | cons {c : Nat} {b : Bool} {l : List (Nat × Bool)} (T : ExcC K (ca c)) (h : PySem.W.kitOne K (.ref (ca c)) cv = some b) (r : EcL K ca cv l) : EcL K ca cv ((c, b) :: l)
theorem EcL.at {K : PySem.W.Frag} {ca : Nat → Addr} {cv : Value} : ∀ {l : List (Nat × Bool)}, EcL K ca cv l → ∀ p ∈ l, ExcC K (ca p.1) ∧ PySem.W.kitOne K (.ref (ca p.1)) cv = some p.2
  | _, .cons T h r, p, hp => by
    rcases List.mem_cons.mp hp with rfl | hp
    · exact ⟨T, h⟩
    · exact r.at p hp
section
variable {S : Sx}
theorem xisEL {a : Addr} {n Pn : Str} {oe : Obj} {cls : Value} {d : Option Addr} {pn : List (Addr × Obj)} {i : Nat} {l : List (Nat × Bool)} {p p1 p2 pos : Pos} {cv : Value} {cvV : V} (hm : S.X.mg "isinstance" = none) (hz : Zc cls d oe) (hf : ∃ vs, oe.data = .fields vs)
    (hv : PE (S.X.suite a ((a, oe) :: pn)) (.Name n p1) (tVar i)) (hP : PE (S.X.suite a ((a, oe) :: pn)) (.Name Pn p2) (tC cvV)) (hr : ∀ u, RelV cvV u → u = cv) (hl : EcL S.X.K S.ca cv l) (hg : Gl S.X "isinstance" := by rfl)
    (he : starEach (.Name n p1 :: [.Name Pn p2]) S.X.env = (false, eval (.Name n p1) S.X.env) :: starEach [.Name Pn p2] S.X.env := by rfl) (he2 : starEach (.Name Pn p2 :: []) S.X.env = (false, eval (.Name Pn p2) S.X.env) :: starEach [] S.X.env := by rfl) (hpl : (backTo pos (starEach [.Name Pn p2] S.X.env)).any (·.1) = false := by rfl) :
    XX (S.su a oe pn cls d) .e (.Call (.Name "isinstance" p) [.Name n p1, .Name Pn p2] [] pos) (fIsL i l) := by
  by_cases hcls : ∃ q ∈ l, cls = .ref (S.ca q.1)
  · obtain ⟨q0, hq0, hcls⟩ := hcls
    obtain ⟨T, hk⟩ := hl.at q0 hq0
    subst hcls
    exact ⟨_, pe_callB (X := S.X.suite a ((a, oe) :: pn)) (call_isE2 T hz hf) hg hm (by decide +kernel) (pa_cons hv (pa_cons hP pa_nil he2) he) (he := he) (hpl := hpl), fun H0 G0 σ H G ρ Q q w => by
      unfold fIsL at w
      split at w
      · rename_i er e
        obtain ⟨ov, e1, a', cls', dd, x1, x2, x3⟩ := q.sl i _ e
        cases x1
        subst x2
        split at w
        · rename_i q1 f1
          have m1 := List.mem_of_find?_eq_some f1
          have c1 : q1.1 = er.c := by
            have := List.find?_some f1
            exact beq_iff_eq.mp this
          have hb : q1.2 = q0.2 := by
            have k1 := (hl.at q1 m1).2
            have x3 := x3.1
            rw [c1, ← x3] at k1
            have k1 : PySem.W.kitOne S.X.K (.ref (S.ca q0.1)) cv = some q1.2 := k1
            rw [hk] at k1
            exact (Option.some.inj k1).symm
          rw [hb] at w
          refine ⟨_, e1, ?_⟩
          refine ⟨cvV, cv, q0.2, rfl, hr, ?_, hk, wp_ok w _ H G (Step.refl q.st.sub) (.bl q0.2)⟩
          obtain ⟨y1, y2 | ⟨dd', vs, y2, y3, y4, y5⟩⟩ := x3
          · exact .inl y2.2
          · exact .inr ⟨dd', _, y2, q.st.sub _ _ y4⟩
        · exact w.elim
      · exact w.elim⟩
  · refine ⟨fun _ _ _ => False, ⟨fun _ _ _ _ _ _ z => z.elim⟩, fun H0 G0 σ H G ρ Q q w => ?_⟩
    unfold fIsL at w
    split at w
    · rename_i er e
      obtain ⟨ov, e1, a', cls', dd, x1, x2, x3⟩ := q.sl i _ e
      cases x1
      split at w
      · rename_i q1 f1
        refine hcls ⟨q1, List.mem_of_find?_eq_some f1, ?_⟩
        have c1 : q1.1 = er.c := by
          have := List.find?_some f1
          exact beq_iff_eq.mp this
        rw [c1]
        exact x3.1
      · exact w.elim
    · exact w.elim
end
end Ct

/-! trees of one's own: made, stored, changed, taken apart -/
namespace Ct
open PySem PySem.Spec PyProof.Rows L2

theorem RT.of_sc {H G : Hp} {k : Sh} {v : V} {d : D} {f : List Addr} (hx : k ≠ .x) (s : scal1 d = true) (r : RT H G k v d f) : Rp G v d := by
  cases r with
  | good h => exact h
  | hole => exact absurd rfl hx
  | sc _ h => exact h
  | lst _ _ _ _ => cases s
  | tup _ _ _ _ => cases s
theorem nd1 {p : Addr} : [p].Nodup := by simp
theorem RTL.unput {H G : Hp} : ∀ (n : Nat) {k : Sh} {vs : List V} {ds : List D} {fp : List Addr}, RTL H G (k.put n (k.at' n)) vs ds fp → RTL H G k vs ds fp := by
  intro n
  induction n with
  | zero =>
    intro k vs ds fp h
    cases k with
    | g => exact h
    | x => exact h
    | r s =>
      have h : RTL H G (.c s (.r s)) vs ds fp := h
      cases h with
      | nil => exact .nil
      | con a b => exact .rep a b
    | c s k => exact h
  | succ n ih =>
    intro k vs ds fp h
    cases k with
    | g => exact h
    | x => exact h
    | r s =>
      have h : RTL H G (.c s ((Sh.r s).put n ((Sh.r s).at' n))) vs ds fp := by
        have e : (Sh.r s).at' n = s := by cases n <;> rfl
        rw [e]
        exact h
      cases h with
      | nil => exact .nil
      | con a b => exact .rep a (ih b)
    | c s k =>
      have h : RTL H G (.c s (k.put n (k.at' n))) vs ds fp := h
      cases h with
      | nil => exact .nil
      | con a b => exact .con a (ih b)
section
variable {S : Sx} {e : Expr} {f : Rho → Rs D} {k : Sh}
theorem XX.o_w (h : XX S .o e f) : XX S (.w (.r .g)) e f := let ⟨t, a, b⟩ := h; ⟨t, a, fun H0 G0 σ H G ρ Q q w => b H0 G0 σ H G ρ Q q (w.imp (fun d q v H' G' s r => by
  obtain ⟨p, vs, ds, rfl, rfl, c, d, e, f⟩ := r
  exact q _ H' G' s ⟨[p], .lst rfl c e (.good f), nd1, fun q hq => by rw [List.mem_singleton.mp hq]; exact d⟩) fun _ z => z)⟩
theorem XX.e_w (h : XX S .e e f) : XX S (.w .g) e f := let ⟨t, a, b⟩ := h; ⟨t, a, fun H0 G0 σ H G ρ Q q w => b H0 G0 σ H G ρ Q q (w.imp (fun d q v H' G' s r => q _ H' G' s ⟨[], .good r, List.nodup_nil, fun _ hq => nomatch hq⟩) fun _ z => z)⟩
theorem xw_sc (h : XX S .e e f) : XX S (.w k) e (fSc f) := let ⟨t, a, b⟩ := h; ⟨t, a, fun H0 G0 σ H G ρ Q q w => b H0 G0 σ H G ρ Q q (Wp.imp w.bind (fun d q v H' G' s r => by
  split at q
  · rename_i hs
    exact wp_ok (E := ExW S σ H G) q _ H' G' s ⟨[], .sc hs r, List.nodup_nil, fun _ hq => nomatch hq⟩
  · exact q.elim) fun _ z => z)⟩
theorem XX.w_e (hk : k.full = true) (h : XX S (.w k) e f) : XX S .e e f := let ⟨t, a, b⟩ := h; ⟨t, a, fun H0 G0 σ H G ρ Q q w => b H0 G0 σ H G ρ Q q (w.imp (fun d q v H' G' s r => by
  obtain ⟨fp, r1, r2, r3⟩ := r
  obtain ⟨G2, t2, gg, rp, _⟩ := r1.give s hk r2 r3
  exact q v H' G2 t2 rp) fun _ z => z)⟩
theorem XX.w_b (hk : k.full = true) (h : XX S (.w k) e f) : XX S .b e f := (h.w_e hk).e_b

/-! ### displays -/
def XAW (S : Sx) (k : Sh) (es : List Expr) (g : Rho → Rs (List D)) : Prop := ∃ t, PA S.X es t ∧ ∀ H0 G0 σ H G ρ (Q : List V → Hp → Prop), Ok S H0 G0 σ H G ρ → Wp (g ρ) (fun ds => ∀ vs H' G', Step H G H' G' → (∃ fp, RTL H' G' k vs ds fp ∧ fp.Nodup ∧ ∀ p ∈ fp, H p = none) → Q vs H') (ExW S σ H G) → t σ H Q
theorem aw_nil : XAW S k [] aNil := ⟨_, pa_nil, fun H0 G0 σ H G ρ Q q w => w [] H G (Step.refl q.st.sub) ⟨[], .nil, List.nodup_nil, fun _ h => nomatch h⟩⟩
theorem aw_step {es : List Expr} {s k' : Sh} {g : Rho → Rs (List D)} (mk : ∀ H G v vs d ds f1 f2, RT H G s v d f1 → RTL H G k vs ds f2 → RTL H G k' (v :: vs) (d :: ds) (f1 ++ f2)) (h1 : XX S (.w s) e f) (h2 : XAW S k es g)
    (hs : starEach (e :: es) S.X.env = (false, eval e S.X.env) :: starEach es S.X.env) : XAW S k' (e :: es) (aCons f g) :=
  let ⟨_, a1, a2⟩ := h1; let ⟨_, b1, b2⟩ := h2; ⟨_, pa_cons a1 b1 hs, fun H0 G0 σ H G ρ Q q w => by
    refine a2 H0 G0 σ H G ρ _ q (Wp.imp w.bind (fun x wx v H1 G1 s1 r1 => ?_) fun _ z => z)
    refine b2 H0 G0 σ H1 G1 ρ _ (q.step s1) (Wp.imp wx.bind (fun y wy u H2 G2 s2 r2 => ?_) fun e z => z.step s1)
    obtain ⟨f1, r1, n1, p1⟩ := r1
    obtain ⟨f2, r2, n2, p2⟩ := r2
    refine wy _ H2 G2 (s1.trans s2) ⟨f1 ++ f2, mk _ _ _ _ _ _ _ _ (r1.step s2) r2, List.nodup_append.mpr ⟨n1, n2, fun a ha b hb e => ?_⟩, fun p hp => ?_⟩
    · subst e
      exact (r1.own a ha).1 (p2 a hb)
    · rcases List.mem_append.mp hp with z | z
      · exact p1 p z
      · exact Same.free s1.hh (p2 p z)⟩
theorem aw_con {es : List Expr} {s : Sh} {g : Rho → Rs (List D)} (h1 : XX S (.w s) e f) (h2 : XAW S k es g) (hs : starEach (e :: es) S.X.env = (false, eval e S.X.env) :: starEach es S.X.env := by rfl) : XAW S (.c s k) (e :: es) (aCons f g) :=
  aw_step (fun _ _ _ _ _ _ _ _ a b => .con a b) h1 h2 hs
theorem aw_rep {es : List Expr} {s : Sh} {g : Rho → Rs (List D)} (h1 : XX S (.w s) e f) (h2 : XAW S (.r s) es g) (hs : starEach (e :: es) S.X.env = (false, eval e S.X.env) :: starEach es S.X.env := by rfl) : XAW S (.r s) (e :: es) (aCons f g) :=
  aw_step (fun _ _ _ _ _ _ _ _ a b => .rep a b) h1 h2 hs
theorem RTL.newO {H0 G0 H G H1 G1 : Hp} {k : Sh} {vs : List V} {ds : List D} {fp : List Addr} {p : Addr} {o : HO} (hn : H1 p = none) (s : Same G1 H1) (r : RTL H1 G1 k vs ds fp) : RTL (upd H1 p o) G1 k vs ds fp := r.mono (Same.refl _) fun q hq => ⟨(r.own q hq).2, by
  rw [upd_ne]
  intro z
  subst z
  exact (r.own q hq).1 hn⟩
theorem xtupW {es : List Expr} {x1 : Nat} {pos : Pos} {g : Rho → Rs (List D)} (hk : k.node = true) (h : XAW S k es g) : XX S (.w k) (.Tuple es x1 pos) (fTup g) :=
  let ⟨_, a1, a2⟩ := h; ⟨_, pe_tup a1, fun H0 G0 σ H G ρ Q q w => by
    refine a2 H0 G0 σ H G ρ _ q (Wp.imp w.bind (fun ds wd vs H1 G1 s1 r1 => ?_) fun _ z => z)
    split at wd
    · rename_i hl
      obtain ⟨fp, r, nd, hf⟩ := r1
      refine ⟨by rw [r.length]; exact hl, fun p hp => ?_⟩
      have gp : G1 p = none := Same.free s1.sub hp
      exact wd _ _ _ (s1.trans (Step.newO s1.sub hp)) ⟨p :: fp, .tup hk upd_same gp (RTL.newO (H0 := H) (G0 := G) (H := H) (G := G) hp s1.sub r), List.nodup_cons.mpr ⟨fun z => (r.own p z).1 hp, nd⟩, fun q hq => by
        rcases List.mem_cons.mp hq with rfl | hq
        · exact Same.free s1.hh hp
        · exact hf q hq⟩
    · exact wd.elim⟩
theorem xlstW {es : List Expr} {pos : Pos} {g : Rho → Rs (List D)} (hk : k.node = true) (h : XAW S k es g) : XX S (.w k) (.List es pos) (fLst g) :=
  let ⟨_, a1, a2⟩ := h; ⟨_, pe_lst a1, fun H0 G0 σ H G ρ Q q w => by
    refine a2 H0 G0 σ H G ρ _ q (Wp.imp w.bind (fun ds wd vs H1 G1 s1 r1 => ?_) fun _ z => z)
    split at wd
    · rename_i hl
      obtain ⟨fp, r, nd, hf⟩ := r1
      refine ⟨by rw [r.length]; exact hl, fun p hp => ?_⟩
      have gp : G1 p = none := Same.free s1.sub hp
      exact wd _ _ _ (s1.trans (Step.newO s1.sub hp)) ⟨p :: fp, .lst hk upd_same gp (RTL.newO (H0 := H) (G0 := G) (H := H) (G := G) hp s1.sub r), List.nodup_cons.mpr ⟨fun z => (r.own p z).1 hp, nd⟩, fun q hq => by
        rcases List.mem_cons.mp hq with rfl | hq
        · exact Same.free s1.hh hp
        · exact hf q hq⟩
    · exact wd.elim⟩
end

/-! ### slots -/
/-- what a slot holds of a tree -/
def slW (k : Sh) (d : D) : Sl := match k with
  | .x => .un
  | .g => .va d
  | k => if scal1 d = true then .va d else match k, d with
    | .r .g, .list ds => .ow ds
    | k, d => .ot k d
theorem slW_rel {S : Sx} {H0 H G : Hp} {k : Sh} {v : V} {d : D} {f : List Addr} (r : RT H G k v d f) (nd : f.Nodup) (h0 : ∀ p ∈ f, H0 p = none) : SlR S H0 H G (some v) (slW k d) ∧ ∀ q, FP H G (some (some v)) q (slW k d) → q ∈ f := by
  have tree : SlR S H0 H G (some v) (.ot k d) ∧ ∀ q, FP H G (some (some v)) q (.ot k d) → q ∈ f := ⟨⟨v, f, rfl, r, nd, h0⟩, fun q ⟨v', f', e, r', hq⟩ => by
    cases e
    rw [r.uniq r']
    exact hq⟩
  have main : k ≠ .x → scal1 d = true → SlR S H0 H G (some v) (.va d) ∧ ∀ q, FP H G (some (some v)) q (.va d) → q ∈ f := fun hx s => ⟨⟨v, rfl, r.of_sc hx s⟩, fun q z => z.elim⟩
  cases k with
  | x => exact ⟨trivial, fun q z => z.elim⟩
  | g =>
    refine ⟨⟨v, rfl, ?_⟩, fun q z => z.elim⟩
    cases r with
    | good h => exact h
    | sc _ h => exact h
    | lst n _ _ _ => cases n
    | tup n _ _ _ => cases n
  | r s =>
    unfold slW
    dsimp only
    by_cases hs : scal1 d = true
    · rw [if_pos hs]
      exact main (fun z => nomatch z) hs
    · rw [if_neg hs]
      cases s with
      | g =>
        cases d with
        | list ds =>
          cases r with
          | sc z _ => cases z
          | lst n h g rl =>
            obtain ⟨a, b⟩ := RTL.of_good rl
            subst b
            exact ⟨⟨_, _, rfl, h, g, h0 _ List.mem_cons_self, a⟩, fun q z => by
              have z : some (some (V.ref _)) = some (some (V.ref q)) := z
              cases z
              exact List.mem_cons_self⟩
        | _ => exact tree
      | _ => exact tree
  | c s k =>
    unfold slW
    dsimp only
    by_cases hs : scal1 d = true
    · rw [if_pos hs]
      exact main (fun z => nomatch z) hs
    · rw [if_neg hs]
      exact tree
theorem Ok.setW {S : Sx} {H0 G0 H G H' G' : Hp} {σ : St} {ρ : Rho} (q : Ok S H0 G0 σ H G ρ) (t : Step H G H' G') {i : Nat} {v : V} {k : Sh} {d : D} {f : List Addr} (r : RT H' G' k v d f) (nd : f.Nodup) (hp : ∀ p ∈ f, H p = none) : Ok S H0 G0 (σ.set i (some v)) H' G' (ρ.set i (slW k d)) := by
  obtain ⟨a, b⟩ := slW_rel (S := S) (H0 := H0) r nd fun p h => Same.free q.st.hh (hp p h)
  exact q.setN t a fun p z => hp p (b p z)
def fAsgW (i : Nat) (k : Sh) (f : Rho → Rs D) : Rho → Out := fun ρ => (f ρ).out ρ fun d => .nx (ρ.set i (slW k d))
/-- one's own name given back -/
def fRetW (i : Nat) (k : Sh) : Rho → Out := fun ρ => match ρ[i]? with
  | some (.ow ds) => if k = .r .g then .ret (.list ds) else .stuck
  | some (.ot k' d) => if k = k' then .ret d else .stuck
  | some (.va d) => if scal1 d = true then .ret d else .stuck
  | _ => .stuck
/-- a tree is read -/
def fT (i : Nat) : Rho → Rs D := fun ρ => match ρ[i]? with
  | some (.va d) => .ok d
  | some (.ow ds) => .ok (.list ds)
  | some (.ot k d) => if k.full = true then .ok d else .stuck
  | _ => .stuck
section
variable {S : Sx} {kd : Kd} {st : Stmt} {e : Expr} {f : Rho → Rs D} {te : TE} {i : Nat} {k : Sh} {pos : Pos}
theorem ts_setW (h : TV S (.w k) te f) : TSt S kd (tAsg te (gName i)) (fAsgW i k f) := fun H0 G0 σ H G ρ N q w =>
  h H0 G0 σ H G ρ _ q (Wp.imp (wp_out q w) (fun d wd v H1 G1 s1 r1 => by
    obtain ⟨fp, r, nd, hf⟩ := r1
    exact wd _ H1 G1 (q.setW s1 r nd hf)) fun _ z => z)
theorem xs_setW (hp : ∀ te, PE S.X e te → PS S.X st (tAsg te (gName i))) (h : XX S (.w k) e f) : XS S kd st (fAsgW i k f) :=
  let ⟨_, a1, a2⟩ := h; ⟨_, hp _ a1, ts_setW a2⟩
theorem xs_setWT (hp : PS S.X st (tAsg te (gName i))) (h : TV S (.w k) te f) : XS S kd st (fAsgW i k f) := ⟨_, hp, ts_setW h⟩
theorem xs_retW {x : Str} {p : Pos} (hv : PE S.X (.Name x p) (tVar i)) : XS S (.w k) (.Return (some (.Name x p)) pos) (fRetW i k) :=
  ⟨_, ps_ret hv, fun H0 G0 σ H G ρ N q w => by
    unfold fRetW at w
    split at w
    · rename_i ds e
      obtain ⟨ov, e1, p, vs, rfl, h1, h2, h3, h4⟩ := q.sl i _ e
      split at w
      · rename_i hk
        subst hk
        exact ⟨_, e1, w _ H G q.st ⟨[p], .lst rfl h1 h2 (.good h4), nd1, fun q hq => by rw [List.mem_singleton.mp hq]; exact h3⟩⟩
      · exact w.elim
    · rename_i k' d e
      obtain ⟨ov, e1, v, fp, rfl, h1, h2, h3⟩ := q.sl i _ e
      split at w
      · rename_i hk
        subst hk
        exact ⟨_, e1, w _ H G q.st ⟨fp, h1, h2, h3⟩⟩
      · exact w.elim
    · rename_i d e
      obtain ⟨ov, e1, v, rfl, r⟩ := q.sl i _ e
      split at w
      · rename_i hk
        exact ⟨_, e1, w _ H G q.st ⟨[], .sc hk r, List.nodup_nil, fun _ h => nomatch h⟩⟩
      · exact w.elim
    · exact w.elim⟩
theorem tb_tree (i : Nat) : TV S .b (tVar i) (fT i) := fun H0 G0 σ H G ρ Q q w => by
  unfold fT at w
  split at w
  · rename_i d e
    obtain ⟨ov, e1, v, rfl, r⟩ := q.sl i _ e
    exact ⟨v, e1, w v H G (Step.refl q.st.sub) (r.mono q.st.sub)⟩
  · rename_i ds e
    obtain ⟨ov, e1, p, vs, rfl, h1, h2, h3, h4⟩ := q.sl i _ e
    exact ⟨_, e1, w _ H G (Step.refl q.st.sub) (.lst h1 (h4.mono q.st.sub))⟩
  · rename_i k d e
    obtain ⟨ov, e1, v, fp, rfl, h1, h2, h3⟩ := q.sl i _ e
    split at w
    · rename_i hk
      exact ⟨_, e1, w _ H G (Step.refl q.st.sub) (h1.rp q.st.sub hk)⟩
    · exact w.elim
  · exact w.elim
theorem xbt (i : Nat) {x : Str} {pos : Pos} (hN : S.X.N[i]? = some x := by rfl) (hv : Vis S.X.env.scope x := by first | exact Or.inl rfl | exact Or.inr (Or.inl rfl) | exact Or.inr (Or.inr rfl)) (hd : (x == ("__debug__" : Str)) = false := by decide)
    (hcd : (x == ("__classdict__" : Str)) = false := by decide) : XX S .b (.Name x pos) (fT i) := ⟨_, pe_var hN hv hd hcd, tb_tree i⟩
end
end Ct

/-! list < list, ints -/
namespace PySem.SeqAt
open AutoSeq1 (wpAny_loadPart')
open MeetsSeq MeetsSeq2 MeetsSeq3 SeqRoads2 PyProof.Rows L2
section
variable {prog : Program} {w : World}
theorem ct_int_at {items : Array Value} {ns : List Int} (h : IntsAre items.toList ns) {i : Nat} (hi : i < items.size) : ∃ (n : Int) (t : Tok), items[i] = .int n t ∧ ns.drop i = n :: ns.drop (i + 1) := by
  have hl := IntsAre.length h
  rw [Array.length_toList] at hl
  obtain ⟨t, e⟩ := PyProof.Rows.IntsAre.int_at h i items[i] (by rw [Array.getElem?_toList, Array.getElem?_eq_getElem hi])
  refine ⟨_, t, e, ?_⟩
  rw [List.drop_eq_getElem_cons (by omega), List.getD_eq_getElem?_getD, List.getElem?_eq_getElem (by omega)]
  rfl
theorem ct_lt_loop (l b : Addr) (items items2 : Array Value) (n n2 : Nat) (dd dd2 : Option Addr) (sl sl2 : Array (Option Value)) (ns ms : List Int) (h1 : IntsAre items.toList ns) (h2 : IntsAre items2.toList ms) (k : Nat) :
    ∀ i : Nat, items.size - i = k → i ≤ items.size → i ≤ items2.size → MeetsIn prog w (Builtin.«list.__eq__.loop» ⟨[.ref l, .ref b, rawInt i, rawInt 0], []⟩)
      (fun A R s => s.heap.get? l = some { cls := .type "list", dict := dd, data := .seq items n, slots := sl } ∧ s.heap.get? b = some { cls := .type "list", dict := dd2, data := .seq items2 n2, slots := sl2 } ∧
        R (.ok (.ret (.bool (_root_.HT.lexLt (ns.drop i) (ms.drop i))))) s) := by
  have z1 := IntsAre.length h1
  have z2 := IntsAre.length h2
  rw [Array.length_toList] at z1 z2
  induction k with
  | zero =>
    intro i hk hi hj A R s h
    obtain ⟨hp, g, d, tk, os⟩ := s; obtain ⟨hl, hb, h⟩ := h
    wp_walk using wpAny_loadPart' hl, wpAny_loadPart' hb
    have hi1 : items[((i : Nat) : Int).toNat]? = none := by simp; omega
    rw [hi1]
    wp_walk using wpAny_loadPart' hl, wpAny_loadPart' hb
    show R (.ok (.ret (.bool (decide (items.size < items2.size))))) _
    have e1 : ns.drop i = [] := List.drop_eq_nil_of_le (by omega)
    rw [e1] at h
    by_cases c : items.size < items2.size
    · obtain ⟨q, qs, eq⟩ : ∃ q qs, ms.drop i = q :: qs := ⟨_, _, List.drop_eq_getElem_cons (by omega)⟩
      rw [eq, _root_.HT.lexLt_nil_cons] at h
      rw [decide_eq_true c]
      exact h
    · rw [List.drop_eq_nil_of_le (show ms.length ≤ i by omega), _root_.HT.lexLt_nil_nil] at h
      rw [decide_eq_false c]
      exact h
  | succ k ih =>
    intro i hk hi hj A R s h
    obtain ⟨hp, g, d, tk, os⟩ := s; obtain ⟨hl, hb, h⟩ := h
    wp_walk using wpAny_loadPart' hl, wpAny_loadPart' hb
    have hlt : i < items.size := by omega
    have hi1 : items[((i : Nat) : Int).toNat]? = some items[i] := by simp [hlt]
    obtain ⟨a, t, e1, f1⟩ := ct_int_at h1 hlt
    rw [hi1]
    by_cases c2 : i < items2.size
    · have hi2 : items2[((i : Nat) : Int).toNat]? = some items2[i] := by simp [c2]
      obtain ⟨c, u, e2, f2⟩ := ct_int_at h2 c2
      rw [hi2, e1, e2]
      have hc : ((i : Int) + 1) = ((i + 1 : Nat) : Int) := by push_cast; rfl
      rw [f1, f2, _root_.HT.lexLt_cons] at h
      obtain ⟨e, he, hiff⟩ := _root_.HT.eqAt_int A.in1 ⟨hp, g, d, tk, os⟩ a t c u
      refine wpAny_bind (he prog w _ _ ?_)
      cases e with
      | true =>
        rw [if_pos (hiff.mp rfl)] at h
        wp_walk
        rw [hc]
        exact ⟨plainId_quiet plain_eq_loop _, codeAny_builtin entry_eq_loop (by
          rw [Around.under_plainId plain_eq_loop _]
          exact ih (i + 1) (by omega) (by omega) (by omega) A R _ ⟨hl, hb, h⟩)⟩
      | false =>
        rw [if_neg (fun q => absurd (hiff.mpr q) Bool.false_ne_true)] at h
        have hri := _root_.HT.rcLt_int A.in1 ⟨hp, g, d, tk, os⟩ a t c u prog w
        wp_walk using wpAny_loadPart' hl, wpAny_loadPart' hb
        rw [hi1, hi2, e1, e2]
        wp_walk using hri
        exact h
    · have hi2 : items2[((i : Nat) : Int).toNat]? = none := by simp; omega
      rw [hi2]
      wp_walk using wpAny_loadPart' hl, wpAny_loadPart' hb
      show R (.ok (.ret (.bool (decide (items.size < items2.size))))) _
      rw [f1, List.drop_eq_nil_of_le (show ms.length ≤ i by omega), _root_.HT.lexLt_cons_nil] at h
      rw [decide_eq_false (by omega)]
      exact h
theorem ct_list_lt (l b : Addr) (items items2 : Array Value) (n n2 : Nat) (dd dd2 : Option Addr) (sl sl2 : Array (Option Value)) (ns ms : List Int) (h1 : IntsAre items.toList ns) (h2 : IntsAre items2.toList ms) :
    MeetsIn prog w (Builtin.«list.__lt__» ⟨[.ref l, .ref b], []⟩)
      (fun A R s => s.heap.get? l = some { cls := .type "list", dict := dd, data := .seq items n, slots := sl } ∧ s.heap.get? b = some { cls := .type "list", dict := dd2, data := .seq items2 n2, slots := sl2 } ∧
        R (.ok (.ret (.bool (_root_.HT.lexLt ns ms)))) s) := by
  intro A R s h
  obtain ⟨hp, g, d, tk, os⟩ := s; obtain ⟨hl, hb, h⟩ := h
  have f3 := AutoSeq1.sub_list_list
  wp_walk using wpAny_loadPart' hl, wpAny_loadPart' hb
  exact ⟨plainId_quiet plain_eq_loop _, codeAny_builtin entry_eq_loop (by
    rw [Around.under_plainId plain_eq_loop _]
    exact ct_lt_loop l b items items2 n n2 dd dd2 sl sl2 ns ms h1 h2 _ 0 rfl (Nat.zero_le _) (Nat.zero_le _) A R _ ⟨hl, hb, h⟩)⟩
theorem ct_lt_lists {A : Around} {s : Shared} {l b : Addr} {items items2 : Array Value} {ns ms : List Int} (hl : s.heap.IsList l items) (hb : s.heap.IsList b items2) (h1 : IntsAre items.toList ns) (h2 : IntsAre items2.toList ms) (hu : A.units < cLine)
    (E Q : Value → Shared → Prop) (h : Q (.bool (_root_.HT.lexLt ns ms)) s) : wpAny (model prog w) A (richCompare .Lt (.ref l) (.ref b)) Q E s := by
  obtain ⟨⟨cls, dd, data, sl⟩, ho, hc, n, hd⟩ := id hl
  obtain ⟨⟨cls2, dd2, data2, sl2⟩, ho2, hc2, n2, hd2⟩ := id hb
  simp only at hc hd hc2 hd2
  subst hc hd hc2 hd2
  have ta : s.TypeIs (.ref l) "list" := ⟨_, ho, rfl⟩
  have tb : s.TypeIs (.ref b) "list" := ⟨_, ho2, rfl⟩
  exact wpAny_richCompare_same_room (op := .Lt) ta tb F.slot_list_lt (call_meetsIn F.slot_list_lt ta F.entry_list_lt (F.args_list_lt_2 _ _) (ct_list_lt l b items items2 n n2 dd dd2 sl sl2 ns ms h1 h2)
    ⟨ho, ho2, show Value.bool (_root_.HT.lexLt ns ms) ≠ Value.notImplemented ∧ Q (.bool (_root_.HT.lexLt ns ms)) s from ⟨(fun x => nomatch x), h⟩⟩) hu
end
end PySem.SeqAt
namespace Ct
open PySem PySem.Spec PyProof.Rows L2
/-- xs < ys, lists of ints -/
def rLtL (K : PySem.W.Frag) : R2 := fun x y H Q => ∃ a b ns ms, x = .ref a ∧ y = .ref b ∧ SqL K H a (ns.map V.int) ∧ SqL K H b (ms.map V.int) ∧ Q (.bl (_root_.HT.lexLt ns ms)) H
theorem op_ltL {X : Cx} (hu : X.A.units < cLine) : OpR X (compareOp .Lt) (rLtL X.K) := by
  intro pins s σ H x y v u Q I rx ry h
  obtain ⟨a, b, ns, ms, rfl, rfl, ha, hb, q⟩ := h
  cases rx
  cases ry
  obtain ⟨its, r1, p1, _⟩ := I.list ha
  obtain ⟨its2, r2, p2, _⟩ := I.list hb
  exact SeqAt.ct_lt_lists (E := X.xe) (Q := EP X pins σ Q) p1.isList p2.isList (by simpa using r1.ints) (by simpa using r2.ints) hu ⟨.bl (_root_.HT.lexLt ns ms), H, I, rfl, q⟩
end Ct

/-! parts of a tree of one's own -/
namespace Ct
open PySem PySem.Spec PyProof.Rows L2

def kidS : D → Option (List D)
  | .list ds => some ds
  | .tuple ds => some ds
  | _ => none
/-- the object of a node -/
def cellOf (d : D) (vs : List V) : HO := match d with
  | .tuple _ => .tup vs
  | _ => .lst vs
/-- another list of items in the same kind of node -/
def setS (d : D) (ds : List D) : D := match d with
  | .tuple _ => .tuple ds
  | _ => .list ds
theorem RT.seq {H G : Hp} {k : Sh} {v : V} {d : D} {f : List Addr} {ds : List D} (r : RT H G k v d f) (hk : k.node = true) (hd : kidS d = some ds) : ∃ a vs fp, v = .ref a ∧ f = a :: fp ∧ H a = some (cellOf d vs) ∧ G a = none ∧ RTL H G k vs ds fp := by
  cases r with
  | good h => cases hk
  | hole => cases hk
  | sc s _ => cases d <;> first | (cases s; done) | (cases hd; done)
  | lst n h g rl => cases hd; exact ⟨_, _, _, rfl, rfl, h, g, rl⟩
  | tup n h g rl => cases hd; exact ⟨_, _, _, rfl, rfl, h, g, rl⟩
theorem RT.mk {H G : Hp} {k : Sh} {a : Addr} {d : D} {vs : List V} {ds ds' : List D} {fp : List Addr} (hk : k.node = true) (hd : kidS d = some ds) (h : H a = some (cellOf d vs)) (g : G a = none) (r : RTL H G k vs ds' fp) : RT H G k (.ref a) (setS d ds') (a :: fp) := by
  cases d with
  | list _ => exact .lst hk h g r
  | tuple _ => exact .tup hk h g r
  | _ => cases hd
theorem setS_self {d : D} {ds : List D} (h : kidS d = some ds) : setS d ds = d := by
  cases d with
  | list _ => cases h; rfl
  | tuple _ => cases h; rfl
  | _ => cases h
theorem sq_cell {K : PySem.W.Frag} {H : Hp} {a : Addr} {d : D} {vs : List V} {ds : List D} (hd : kidS d = some ds) (h : H a = some (cellOf d vs)) : SqL K H a vs ∨ SqT K H a vs := by
  cases d with
  | list _ => exact .inl (.of h)
  | tuple _ => exact .inr (.of h)
  | _ => cases hd
/-- x[n] read where x is a node -/
theorem rix_cell {K : PySem.W.Frag} {H : Hp} {a : Addr} {d : D} {vs : List V} {ds : List D} {n : Int} {m : Nat} {v : V} {Q : VK} (hd : kidS d = some ds) (h : H a = some (cellOf d vs)) (hl : vs.length = ds.length) (hm : ixN ds.length n = some m) (hv : vs[m]? = some v) (q : Q v H) :
    rIxL K (.ref a) (.int n) H Q ∨ rIxT K (.ref a) (.int n) H Q := by
  have e : atI vs n = some v := by
    unfold atI
    rw [hl, hm]
    exact hv
  rcases sq_cell (K := K) hd h with z | z
  · exact .inl ⟨a, vs, n, v, rfl, rfl, z, e, q⟩
  · exact .inr ⟨a, vs, n, v, rfl, rfl, z, e, q⟩

/-- x.append(e), what is appended one's own, too -/
def fAppW (i : Nat) (s : Sh) (f : Rho → Rs D) : Rho → Out := fun ρ => match ρ[i]? with
  | some (.ot k (.list ds)) => if k.node = true ∧ k.at' ds.length = s ∧ ds.length < sizeLine then (f ρ).out ρ fun d => .nx (ρ.set i (.ot k (.list (ds ++ [d])))) else .stuck
  | _ => .stuck
section
variable {S : Sx} {kd : Kd} {st : Stmt} {e : Expr} {f : Rho → Rs D} {i : Nat} {s : Sh} {pos : Pos}
theorem ot_fp {H G : Hp} {σ : St} {i : Nat} {k : Sh} {v : V} {d : D} {f : List Addr} (e1 : σ[i]? = some (some v)) (r : RT H G k v d f) {q : Addr} (h : FP H G σ[i]? q (.ot k d)) : q ∈ f := by
  obtain ⟨v', f', a, b, c⟩ := h
  rw [e1] at a
  cases a
  rw [r.uniq b]
  exact c
theorem xs_appW (hp : ∀ ta, PA S.X [e] ta → PS S.X st (tDrop (tBM S.X.K "list" rAppend (tVar i) ta))) (h : XX S (.w s) e f) (he : starEach (e :: []) S.X.env = (false, eval e S.X.env) :: starEach [] S.X.env := by rfl) : XS S kd st (fAppW i s f) :=
  let ⟨_, a1, a2⟩ := h; ⟨_, hp _ (pa_cons a1 pa_nil he), fun H0 G0 σ H G ρ N q w => by
    unfold fAppW at w
    split at w
    · rename_i k ds eo
      obtain ⟨ov, e1, v, fp, rfl, h1, h2, h3⟩ := q.sl i _ eo
      split at w
      · rename_i c
        obtain ⟨hk, c1, c2⟩ := c
        obtain ⟨a, vs, fs, rfl, rfl, hc, hg, rl⟩ := h1.seq (ds := ds) hk rfl
        have hc : H a = some (.lst vs) := hc
        refine ⟨_, e1, .inl ⟨rfl, _, .of hc⟩, ?_⟩
        refine a2 H0 G0 σ H G ρ _ q (Wp.imp (wp_out q w) (fun d wd u H1 G1 s1 r1 => ?_) fun _ z => z)
        · obtain ⟨f1, r1, n1, p1⟩ := r1
          rw [← c1] at r1
          have hc1 := s1.hh _ _ hc
          refine ⟨a, vs, u, rfl, rfl, hc1, by rw [rl.length]; exact c2, ?_⟩
          have na : a ∉ f1 := fun z => by
            have := p1 a z
            rw [hc] at this
            cases this
          have nd := List.nodup_cons.mp h2
          have rl1 := rl.step s1
          have up : ∀ p, p ≠ a → upd H1 a (HO.lst (vs ++ [u])) p = H1 p := fun p hp => upd_ne hp
          have g1 := s1.sep a hg (by rw [hc]; exact Option.some_ne_none _)
          obtain ⟨f', rs, ef⟩ := RTL.snoc (H := upd H1 a (HO.lst (vs ++ [u]))) (G := G1) hk
            (rl1.mono (Same.refl _) fun p hp => ⟨(rl1.own p hp).2, up p (fun z => nd.1 (z ▸ hp))⟩)
            (r1.mono (Same.refl _) fun p hp => ⟨(r1.own p hp).2, up p (fun z => na (z ▸ hp))⟩)
          subst ef
          have rr : RT (upd H1 a (HO.lst (vs ++ [u]))) G1 k (.ref a) (.list (ds ++ [d])) (a :: (fs ++ f1)) := .lst hk upd_same g1 rs
          refine wd _ _ G1 (q.wr s1 eo ⟨_, _, e1, h1, List.mem_cons_self⟩ (fun ov' eo' => ?_) fun p hp => ?_)
          · rw [e1] at eo'
            cases eo'
            refine ⟨_, _, rfl, rr, ?_, fun p hp => ?_⟩
            · refine List.nodup_cons.mpr ⟨fun z => ?_, List.nodup_append.mpr ⟨nd.2, n1, fun x hx y hy z => ?_⟩⟩
              · rcases List.mem_append.mp z with z | z
                · exact nd.1 z
                · exact na z
              · subst z
                exact (rl.own x hx).1 (p1 x hy)
            · rcases List.mem_cons.mp hp with rfl | hp
              · exact h3 _ List.mem_cons_self
              · rcases List.mem_append.mp hp with hp | hp
                · exact h3 _ (List.mem_cons_of_mem _ hp)
                · exact Same.free q.st.hh (p1 p hp)
          · have := ot_fp e1 rr hp
            rcases List.mem_cons.mp this with rfl | hp
            · exact .inl ⟨_, _, e1, h1, List.mem_cons_self⟩
            · rcases List.mem_append.mp hp with hp | hp
              · exact .inl ⟨_, _, e1, h1, List.mem_cons_of_mem _ hp⟩
              · exact .inr (p1 p hp)
      · exact w.elim
    · exact w.elim⟩
end
end Ct

namespace Ct
open PySem PySem.Spec PyProof.Rows L2

theorem list_set_self {α : Type} {l : List α} {n : Nat} {x : α} (h : l[n]? = some x) : l.set n x = l := by
  apply List.ext_getElem?
  intro j
  by_cases e : n = j
  · subst e
    obtain ⟨hn, _⟩ := List.getElem?_eq_some_iff.mp h
    rw [List.getElem?_set_self hn, h]
  · rw [List.getElem?_set_ne e]
/-- x[a][b] = v -/
def fSetP (i : Nat) (fv fa fb : Rho → Rs D) : Rho → Out := fun ρ => (fv ρ).out ρ fun v => match ρ[i]? with
  | some (.ot k (.list ds)) => (fa ρ).out ρ fun a => match a with
    | .int n => match ixN ds.length n with
      | some m => match ds[m]? with
        | some (.list es) => if k.node = true ∧ k.at' m = .r .g then (fb ρ).out ρ fun b => match b with
          | .int n2 => match ixN es.length n2 with
            | some m2 => .nx (ρ.set i (.ot k (.list (ds.set m (.list (es.set m2 v))))))
            | none => .stuck
          | _ => .stuck
          else .stuck
        | _ => .stuck
      | none => .stuck
    | _ => .stuck
  | _ => .stuck
/-- x[n].append(..), the child flat -/
def fAppC (i : Nat) (fa : Rho → Rs D) (f : Rho → Rs (List D)) : Rho → Out := fun ρ => match ρ[i]? with
  | some (.ot k (.list ds)) => (fa ρ).out ρ fun a => match a with
    | .int n => match ixN ds.length n with
      | some m => match ds[m]? with
        | some (.list es) => if k.node = true ∧ k.at' m = .r .g then (f ρ).out ρ fun as => (mAppend es as).out ρ fun es' => .nx (ρ.set i (.ot k (.list (ds.set m (.list es')))))
          else .stuck
        | _ => .stuck
      | none => .stuck
    | _ => .stuck
  | _ => .stuck
/-- y = x[n]: the item goes over -/
def fTake (j i : Nat) (fa : Rho → Rs D) : Rho → Out := fun ρ => match ρ[i]? with
  | some (.ot k d) => (fa ρ).out ρ fun a => match a with
    | .int n => match kidS d with
      | some ds => match ixN ds.length n with
        | some m => match ds[m]? with
          | some d' => if k.node = true ∧ j ≠ i then .nx ((ρ.set i (.ot (k.put m .x) d)).set j (slW (k.at' m) d')) else .stuck
          | _ => .stuck
        | none => .stuck
      | none => .stuck
    | _ => .stuck
  | _ => .stuck
/-- a flat child is written -/
theorem Ok.child {S : Sx} {H0 G0 H G H' G' : Hp} {σ : St} {ρ : Rho} {i : Nat} {k : Sh} {ds es es' : List D} {m : Nat} {a c : Addr} {vs cvs cvs' : List V} {fp : List Addr} (q : Ok S H0 G0 σ H G ρ) (t : Step H G H' G')
    (eo : ρ[i]? = some (.ot k (.list ds))) (e1 : σ[i]? = some (some (.ref a))) (hk : k.node = true) (hc : k.at' m = .r .g) (nd : (a :: fp).Nodup) (h0 : ∀ p ∈ a :: fp, H0 p = none) (ha : H a = some (.lst vs)) (ga : G a = none) (rl : RTL H G k vs ds fp) (em : ds[m]? = some (.list es))
    (ev : vs[m]? = some (.ref c)) (hcc : H c = some (.lst cvs)) (re : RpL G' cvs' es') : Ok S H0 G0 σ (upd H' c (.lst cvs')) G' (ρ.set i (.ot k (.list (ds.set m (.list es'))))) := by
  obtain ⟨v, f0, f1, f2, ev', rfl, rc, rb⟩ := rl.split em
  rw [ev] at ev'
  cases ev'
  rw [hc] at rc
  obtain ⟨c', ws, fs, ec, rfl, hc', gc, rl'⟩ := rc.seq (ds := es) rfl rfl
  cases ec
  obtain ⟨_, rfl⟩ := RTL.of_good rl'
  have nd0 := List.nodup_cons.mp nd
  have cm : c ∈ a :: (f0 ++ ([c] ++ f2)) := by simp
  have nac : a ≠ c := fun z => nd0.1 (by rw [z]; simp)
  have n0 : ∀ p ∈ f0 ++ f2, p ≠ c := fun p hp z => by
    subst z
    have n1 := nd0.2
    rw [List.nodup_append] at n1
    obtain ⟨x1, x2, x3⟩ := n1
    rcases List.mem_append.mp hp with hp | hp
    · exact x3 p hp p (by simp) rfl
    · have := List.nodup_cons.mp (show (p :: f2).Nodup from x2)
      exact this.1 hp
  have own : ∀ p ∈ f0 ++ ([c] ++ f2), H p ≠ none ∧ G p = none := fun p hp => rl.own p hp
  have keep : ∀ p ∈ f0 ++ f2, G' p = none ∧ upd H' c (HO.lst cvs') p = H p := fun p hp => by
    have hp' : p ∈ f0 ++ ([c] ++ f2) := by
      rcases List.mem_append.mp hp with hp | hp
      · exact List.mem_append_left _ hp
      · exact List.mem_append_right _ (List.mem_append_right _ hp)
    obtain ⟨x, y⟩ := own p hp'
    refine ⟨t.sep p y x, ?_⟩
    rw [upd_ne (n0 p hp)]
    cases z : H p with
    | none => exact absurd z x
    | some o => exact t.hh p o z
  have gc' : G' c = none := t.sep c gc (by rw [hcc]; exact Option.some_ne_none _)
  have rc' : RT (upd H' c (HO.lst cvs')) G' (.r .g) (.ref c) (.list es') [c] := .lst rfl upd_same gc' (.good re)
  have rl2 := rb _ G' (k.at' m) (.ref c) (.list es') [c] t.gg keep (by rw [hc]; exact rc')
  have rl3 := rl2.unput
  rw [list_set_self ev] at rl3
  have ga' : G' a = none := t.sep a ga (by rw [ha]; exact Option.some_ne_none _)
  have ha' : upd H' c (HO.lst cvs') a = some (.lst vs) := by rw [upd_ne nac]; exact t.hh _ _ ha
  have rr : RT (upd H' c (HO.lst cvs')) G' k (.ref a) (.list (ds.set m (.list es'))) (a :: (f0 ++ ([c] ++ f2))) := .lst hk ha' ga' rl3
  have h1 : RT H G k (.ref a) (.list ds) (a :: (f0 ++ ([c] ++ f2))) := .lst hk ha ga rl
  refine q.wr t eo ⟨_, _, e1, h1, cm⟩ (fun ov' eo' => ?_) fun p hp => .inl ⟨_, _, e1, h1, ot_fp e1 rr hp⟩
  rw [e1] at eo'
  cases eo'
  exact ⟨_, _, rfl, rr, nd, h0⟩
section
variable {S : Sx} {kd : Kd} {st : Stmt} {e ea eb : Expr} {f fv fa fb : Rho → Rs D} {i j : Nat} {s : Sh} {pos : Pos}
theorem kid_flat {H G : Hp} {k : Sh} {vs : List V} {ds es : List D} {fp : List Addr} {m : Nat} (rl : RTL H G k vs ds fp) (hc : k.at' m = .r .g) (em : ds[m]? = some (.list es)) : ∃ c cvs, vs[m]? = some (.ref c) ∧ H c = some (.lst cvs) ∧ G c = none ∧ RpL G cvs es := by
  obtain ⟨v, f0, f1, f2, ev, rfl, rc, rb⟩ := rl.split em
  rw [hc] at rc
  obtain ⟨c', ws, fs, ec, rfl, hc', gc, rl'⟩ := rc.seq (ds := es) rfl rfl
  cases ec
  exact ⟨c', ws, ev, hc', gc, (RTL.of_good rl').1⟩
theorem xs_setP (hp : ∀ tv ta tb, PE S.X e tv → PE S.X ea ta → PE S.X eb tb → PS S.X st (tAsg tv (gSub (tOp (fun x y H Q => rIxL S.X.K x y H Q ∨ rIxT S.X.K x y H Q) (tVar i) ta) tb rSetL))) (h1 : XX S .e e fv) (h2 : XX S .e ea fa) (h3 : XX S .e eb fb) : XS S kd st (fSetP i fv fa fb) :=
  let ⟨_, a1, a2⟩ := h1; let ⟨_, b1, b2⟩ := h2; let ⟨_, c1, c2⟩ := h3; ⟨_, hp _ _ _ a1 b1 c1, fun H0 G0 σ H G ρ N q w => by
    refine a2 H0 G0 σ H G ρ _ q (Wp.imp (wp_out q w) (fun d wd v H1 G1 s1 r1 => ?_) fun _ z => z)
    have q1 := q.step s1
    split at wd
    · rename_i k ds eo
      obtain ⟨ov, e1, v0, fp, rfl, t1, t2, t3⟩ := q1.sl i _ eo
      refine ⟨_, e1, ?_⟩
      refine b2 H0 G0 σ H1 G1 ρ _ q1 (Wp.imp (wp_out q1 wd) (fun x wx vx H2 G2 s2 r2 => ?_) fun _ z => z)
      split at wx
      · rename_i n
        cases Rp.int_inv r2
        split at wx
        · rename_i m em
          split at wx
          · rename_i es ee
            split at wx
            · rename_i hk
              obtain ⟨a, vs, fs, rfl, rfl, ha, ga, rl⟩ := t1.seq (ds := ds) hk.1 rfl
              obtain ⟨c, cvs, ev, hcc, gc, rc⟩ := kid_flat rl hk.2 ee
              refine rix_cell (d := .list ds) (ds := ds) rfl (s2.hh _ _ ha) rl.length em ev ?_
              have q2 := q1.step s2
              refine c2 H0 G0 σ H2 G2 ρ _ q2 (Wp.imp (wp_out q2 wx) (fun y wy vy H3 G3 s3 r3 => ?_) fun _ z => z)
              split at wy
              · rename_i n2
                cases Rp.int_inv r3
                split at wy
                · rename_i m2 em2
                  have s23 := s2.trans s3
                  refine ⟨c, cvs, n2, m2, rfl, rfl, s23.hh _ _ hcc, by rw [rc.length]; exact em2, ?_⟩
                  exact wy _ _ G3 (q1.child s23 eo e1 hk.1 hk.2 t2 t3 ha ga rl ee ev hcc ((rc.mono s23.gg).set m2 (r1.mono s23.gg)))
                · exact wy.elim
              · exact wy.elim
            · exact wx.elim
          · exact wx.elim
        · exact wx.elim
      · exact wx.elim
    · exact wd.elim⟩
theorem xs_appC {es : List Expr} {g : Rho → Rs (List D)} (hp : ∀ ta tb, PE S.X ea ta → PA S.X es tb → PS S.X st (tDrop (tBM S.X.K "list" rAppend (tOp (fun x y H Q => rIxL S.X.K x y H Q ∨ rIxT S.X.K x y H Q) (tVar i) ta) tb))) (h2 : XX S .e ea fa) (h3 : XA S .e es g) : XS S kd st (fAppC i fa g) :=
  let ⟨_, b1, b2⟩ := h2; let ⟨_, c1, c2⟩ := h3; ⟨_, hp _ _ b1 c1, fun H0 G0 σ H G ρ N q w => by
    unfold fAppC at w
    split at w
    · rename_i k ds eo
      obtain ⟨ov, e1, v0, fp, rfl, t1, t2, t3⟩ := q.sl i _ eo
      refine ⟨_, e1, ?_⟩
      refine b2 H0 G0 σ H G ρ _ q (Wp.imp (wp_out q w) (fun x wx vx H2 G2 s2 r2 => ?_) fun _ z => z)
      split at wx
      · rename_i n
        cases Rp.int_inv r2
        split at wx
        · rename_i m em
          split at wx
          · rename_i es ee
            split at wx
            · rename_i hk
              obtain ⟨a, vs, fs, rfl, rfl, ha, ga, rl⟩ := t1.seq (ds := ds) hk.1 rfl
              obtain ⟨c, cvs, ev, hcc, gc, rc⟩ := kid_flat rl hk.2 ee
              refine rix_cell (d := .list ds) (ds := ds) rfl (s2.hh _ _ ha) rl.length em ev ?_
              have q2 := q.step s2
              refine ⟨.inl ⟨rfl, _, .of (s2.hh _ _ hcc)⟩, ?_⟩
              refine c2 H0 G0 σ H2 G2 ρ _ q2 (Wp.imp (wp_out q2 wx) (fun as wa us H3 G3 s3 r3 => ?_) fun _ z => z)
              have s23 := s2.trans s3
              have q3 := q.step s23
              refine mu_append H3 G3 c cvs es us as _ (s23.hh _ _ hcc) (s23.sep c gc (by rw [hcc]; exact Option.some_ne_none _)) s23.sub (rc.mono s23.gg) r3 (Wp.imp (Wp.noX (E' := fun _ => False) (nx_append es as) (wp_out q3 wa)) (fun es' we ws hw v => ?_) fun _ z => z)
              exact we _ _ G3 (q.child s23 eo e1 hk.1 hk.2 t2 t3 ha ga rl ee ev hcc hw)
            · exact wx.elim
          · exact wx.elim
        · exact wx.elim
      · exact wx.elim
    · exact w.elim⟩
/-- an item goes over to another slot -/
theorem Ok.take {S : Sx} {H0 G0 H G : Hp} {σ : St} {ρ : Rho} {i j : Nat} {k : Sh} {d d' : D} {ds : List D} {m : Nat} {v : V} {fp : List Addr} (q : Ok S H0 G0 σ H G ρ) (eo : ρ[i]? = some (.ot k d)) (hk : k.node = true) (hd : kidS d = some ds) (em : ds[m]? = some d')
    (e1 : σ[i]? = some (some v)) (r : RT H G k v d fp) (nd : fp.Nodup) (h0 : ∀ p ∈ fp, H0 p = none) : ∃ a vs u, v = .ref a ∧ H a = some (cellOf d vs) ∧ vs.length = ds.length ∧ vs[m]? = some u ∧ Ok S H0 G0 (σ.set j (some u)) H G ((ρ.set i (.ot (k.put m .x) d)).set j (slW (k.at' m) d')) := by
  obtain ⟨a, vs, fs, rfl, rfl, ha, ga, rl⟩ := r.seq hk hd
  obtain ⟨u, f0, f1, f2, ev, rfl, rc, rb⟩ := rl.split em
  refine ⟨a, vs, u, rfl, ha, rl.length, ev, ?_⟩
  have nd0 := List.nodup_cons.mp nd
  have n1 := nd0.2
  rw [List.nodup_append] at n1
  obtain ⟨x1, x2, x3⟩ := n1
  rw [List.nodup_append] at x2
  obtain ⟨y1, y2, y3⟩ := x2
  have sub : ∀ p ∈ f0 ++ ([] ++ f2), p ∈ f0 ++ (f1 ++ f2) := fun p hp => by
    rcases List.mem_append.mp hp with hp | hp
    · exact List.mem_append_left _ hp
    · exact List.mem_append_right _ (List.mem_append_right _ hp)
  have rl' := rb H G .x u d' [] (Same.refl _) (fun p hp => ⟨(rl.own p (sub p hp)).2, rfl⟩) .hole
  rw [list_set_self ev, list_set_self em] at rl'
  have rr : RT H G (k.put m .x) (.ref a) d (a :: (f0 ++ ([] ++ f2))) := by
    have := RT.mk (ds' := ds) (Sh.put_node (n := m) (s := .x) hk) hd ha ga rl'
    rw [setS_self hd] at this
    exact this
  have hf1 : ∀ p ∈ f1, p ∈ a :: (f0 ++ (f1 ++ f2)) := fun p hp => List.mem_cons_of_mem _ (List.mem_append_right _ (List.mem_append_left _ hp))
  have hf0 : ∀ p ∈ a :: (f0 ++ ([] ++ f2)), p ∈ a :: (f0 ++ (f1 ++ f2)) := fun p hp => by
    rcases List.mem_cons.mp hp with rfl | hp
    · exact List.mem_cons_self
    · exact List.mem_cons_of_mem _ (sub p hp)
  obtain ⟨sa, sb⟩ := slW_rel (S := S) (H0 := H0) rc y1 fun p hp => h0 p (hf1 p hp)
  refine q.move eo (fun ov eo' => ?_) sa (fun p hp => ⟨_, _, e1, r, hf0 p (ot_fp e1 rr hp)⟩) (fun p hp => ⟨_, _, e1, r, hf1 p (sb p hp)⟩) fun p hp hq => ?_
  · rw [e1] at eo'
    cases eo'
    refine ⟨_, _, rfl, rr, ?_, fun p hp => h0 p (hf0 p hp)⟩
    refine List.nodup_cons.mpr ⟨fun z => nd0.1 (sub _ z), List.nodup_append.mpr ⟨x1, y2, fun b hb c hc => x3 b hb c (List.mem_append_right _ hc)⟩⟩
  · have z1 := ot_fp e1 rr hp
    have z2 := sb p hq
    rcases List.mem_cons.mp z1 with rfl | z1
    · exact nd0.1 (List.mem_append_right _ (List.mem_append_left _ z2))
    · rcases List.mem_append.mp z1 with z1 | z1
      · exact x3 p z1 p (List.mem_append_left _ z2) rfl
      · exact y3 p z2 p z1 rfl
theorem xs_take (hp : ∀ ta, PE S.X ea ta → PS S.X st (tAsg (tOp (fun x y H Q => rIxL S.X.K x y H Q ∨ rIxT S.X.K x y H Q) (tVar i) ta) (gName j))) (h2 : XX S .e ea fa) : XS S kd st (fTake j i fa) :=
  let ⟨_, b1, b2⟩ := h2; ⟨_, hp _ b1, fun H0 G0 σ H G ρ N q w => by
    unfold fTake at w
    split at w
    · rename_i k d eo
      obtain ⟨ov, e1, v0, fp, rfl, t1, t2, t3⟩ := q.sl i _ eo
      refine ⟨_, e1, ?_⟩
      refine b2 H0 G0 σ H G ρ _ q (Wp.imp (wp_out q w) (fun x wx vx H2 G2 s2 r2 => ?_) fun _ z => z)
      split at wx
      · rename_i n
        cases Rp.int_inv r2
        split at wx
        · rename_i ds hd
          split at wx
          · rename_i m em
            split at wx
            · rename_i d' ee
              split at wx
              · rename_i hk
                obtain ⟨a, vs, u, rfl, ha, hl, ev, q'⟩ := (q.step s2).take (j := j) eo hk.1 hd ee e1 (t1.step s2) t2 t3
                exact rix_cell hd ha hl em ev (wx _ _ G2 q')
              · exact wx.elim
            · exact wx.elim
          · exact wx.elim
        · exact wx.elim
      · exact wx.elim
    · exact w.elim⟩
/-- a, b = x: the items go over -/
def fUnp (i j1 j2 : Nat) : Rho → Out := fun ρ => match ρ[i]? with
  | some (.ot k (.tuple [d1, d2])) => if k.node = true ∧ (k.put 0 .x).node = true ∧ j1 ≠ i ∧ j2 ≠ i then
      .nx ((((ρ.set i (.ot (k.put 0 .x) (.tuple [d1, d2]))).set j1 (slW (k.at' 0) d1)).set i (.ot ((k.put 0 .x).put 1 .x) (.tuple [d1, d2]))).set j2 (slW ((k.put 0 .x).at' 1) d2)) else .stuck
  | _ => .stuck
theorem xs_unp {j1 j2 : Nat} (hp : PS S.X st (tAsg (tVar i) (gTup S.X.K 2 (fun vs σ H Q => ∃ v r, vs = v :: r ∧ gName j1 v σ H fun σ1 H1 => ∃ u t, r = u :: t ∧ gName j2 u σ1 H1 fun σ2 H2 => t = [] ∧ Q σ2 H2)))) : XS S kd st (fUnp i j1 j2) :=
  ⟨_, hp, fun H0 G0 σ H G ρ N q w => by
    unfold fUnp at w
    split at w
    · rename_i k d1 d2 eo
      split at w
      · rename_i c
        obtain ⟨ov, e1, v0, fp, rfl, t1, t2, t3⟩ := q.sl i _ eo
        refine ⟨_, e1, ?_⟩
        obtain ⟨a, vs, u, rfl, ha, hl, ev, q'⟩ := q.take (j := j1) (m := 0) eo c.1 rfl rfl e1 t1 t2 t3
        have hlen : i < ρ.length := (List.getElem?_eq_some_iff.mp eo).1
        have eo' : ((ρ.set i (.ot (k.put 0 .x) (.tuple [d1, d2]))).set j1 (slW (k.at' 0) d1))[i]? = some (.ot (k.put 0 .x) (.tuple [d1, d2])) := by
          rw [List.getElem?_set_ne c.2.2.1, List.getElem?_set_self hlen]
        have e1' : (σ.set j1 (some u))[i]? = some (some (.ref a)) := by rw [List.getElem?_set_ne c.2.2.1]; exact e1
        obtain ⟨ov, e2, v2, fp2, rfl, t4, t5, t6⟩ := q'.sl i _ eo'
        rw [e1'] at e2
        cases e2
        obtain ⟨a2, vs2, u2, ea, ha2, hl2, ev2, q2⟩ := q'.take (j := j2) (m := 1) eo' c.2.1 rfl rfl e1' t4 t5 t6
        cases ea
        rw [ha] at ha2
        have : vs = vs2 := by
          have ha2 : HO.tup vs = HO.tup vs2 := Option.some.inj ha2
          cases ha2
          rfl
        subst this
        match vs, hl, ev, ev2 with
        | [x, y], _, ev, ev2 =>
          cases ev
          cases ev2
          exact ⟨a, [_, _], rfl, .of ha, rfl, _, _, rfl, _, _, rfl, rfl, w _ _ G q2⟩
      · exact w.elim
    · exact w.elim⟩
end
end Ct

/-! comprehensions whose items are one's own -/
namespace Ct
open PySem PySem.Spec PyProof.Rows L2
section
variable {S : Sx} {X' : Cx} {k : Kd}
theorem tv_compW {sh : Sh} {wi : TI} {is vs : List Nat} {f : Rho → Rs (List D)} {tg : Tg} {c : Rho → Rs Bool} {e : Rho → Rs D} (hs : ∀ j ∈ is, j ∈ vs)
    (hi : ∀ H0 G0 σ H G ρ (R : It → Hp → Prop), Ok S H0 G0 σ H G ρ → Wp (f ρ) (fun ds => ∀ J H' G', Step H G H' G' → ItOk J G' ds → R J H') (ExW S σ H G) → wi σ H R) :
    TV S (.w (.r sh)) (tLc wi (uG S is tg) (uT S c) (uE S (.w sh) e) vs) (fComp vs f tg c e) := fun H0 G0 σ H G ρ Q q w => by
  refine hi H0 G0 σ H G ρ _ q (Wp.imp (Wp.bind w) (fun ds wd J H1 G1 s1 it => ?_) fun _ z => z)
  have qw := (q.step s1).wipe vs
  by_cases hl : ds.length ≤ sizeLine
  · rw [if_pos hl] at wd
    cases ec : compS tg c e (wipeR ρ vs) ds with
    | exc er => rw [ec] at wd; exact wd.elim
    | stuck => rw [ec] at wd; exact wd.elim
    | ok res =>
      rw [ec] at wd
      have wd := wp_ok wd
      intro Da hD
      have gD : G1 Da = none := Same.free s1.sub hD
      refine ⟨fun i m Hc => m = ds.length - i ∧ i ≤ ds.length ∧ ∃ Gc acc accD rest fp, Step H1 G1 Hc Gc ∧ Hc Da = some (.lst acc) ∧ Gc Da = none ∧ (RTL Hc Gc (.r sh) acc accD fp ∧ fp.Nodup ∧ Da ∉ fp ∧ ∀ p ∈ fp, H1 p = none) ∧ acc.length ≤ i ∧ compS tg c e (wipeR ρ vs) (ds.drop i) = .ok rest ∧ accD ++ rest = res,
        ⟨ds.length, by simp, Nat.zero_le _, G1, [], [], res, [], Step.newO s1.sub hD, upd_same, gD, ⟨.nil, List.nodup_nil, fun z => (nomatch z), fun _ z => (nomatch z)⟩, Nat.le_refl _, ec, rfl⟩, ?_⟩
      rintro i m Hc ⟨rfl, hle, Gc, acc, accD, rest, fp, st, hA, gA, ⟨rA, nA, dA, pA⟩, lA, eR, eA⟩
      have sb := st.sub
      by_cases hlt : i < ds.length
      · obtain ⟨go, tn⟩ := (it i Hc Gc st.gg sb).2 ds[i] (List.getElem?_eq_getElem hlt)
        rw [List.drop_eq_getElem_cons hlt] at eR
        refine .inr ⟨go, fun H' => ∃ Gc acc accD rest fp, Step H1 G1 H' Gc ∧ H' Da = some (.lst acc) ∧ Gc Da = none ∧ (RTL H' Gc (.r sh) acc accD fp ∧ fp.Nodup ∧ Da ∉ fp ∧ ∀ p ∈ fp, H1 p = none) ∧ acc.length ≤ i + 1 ∧ compS tg c e (wipeR ρ vs) (ds.drop (i + 1)) = .ok rest ∧ accD ++ rest = res,
          fun H' z => ⟨ds.length - (i + 1), by omega, rfl, hlt, z⟩, fun x H' y => ?_⟩
        obtain ⟨G', s', r'⟩ := tn x H' y
        unfold compS at eR
        have q' := qw.step (st.trans s')
        refine ⟨H0, G0, G', wipeR ρ vs, ds[i], q', r', ?_⟩
        cases e1 : tg ds[i] (wipeR ρ vs) with
        | exc _ => rw [e1] at eR; cases eR
        | stuck => rw [e1] at eR; cases eR
        | ok ρ1 =>
          rw [e1] at eR
          intro σ' te
          refine ⟨wipe_same hs te.out te.len, ⟨H0, G0, G', ρ1, te.ok, ?_⟩⟩
          cases e2 : c ρ1 with
          | exc _ => simp only [e2] at eR; cases eR
          | stuck => simp only [e2] at eR; cases eR
          | ok b =>
            intro H2 G2 s2
            cases b with
            | false =>
              simp only [e2] at eR
              refine iteF ?_
              have s3 := s'.trans s2
              exact ⟨G2, acc, accD, rest, fp, st.trans s3, s3.hh _ _ hA, s3.sep Da gA (by rw [hA]; exact Option.some_ne_none _), ⟨rA.step s3, nA, dA, pA⟩, Nat.le_succ_of_le lA, eR, eA⟩
            | true =>
              simp only [e2] at eR
              refine iteT ⟨H0, G0, G2, ρ1, te.ok.step s2, ?_⟩
              cases e3 : e ρ1 with
              | exc _ => simp only [e3] at eR; cases eR
              | stuck => simp only [e3] at eR; cases eR
              | ok y =>
                simp only [e3] at eR
                intro v H4 G4 s4 r4
                have s5 := s'.trans (s2.trans s4)
                have st5 := st.trans s5
                have g5 := s5.sep Da gA (by rw [hA]; exact Option.some_ne_none _)
                refine ⟨acc, s5.hh _ _ hA, Nat.lt_of_le_of_lt lA (Nat.lt_of_lt_of_le hlt hl), ?_⟩
                cases e4 : compS tg c e (wipeR ρ vs) (ds.drop (i + 1)) with
                | exc _ => rw [e4] at eR; cases eR
                | stuck => rw [e4] at eR; cases eR
                | ok r5 =>
                  rw [e4] at eR
                  have eR : Rs.ok (y :: r5) = Rs.ok rest := eR
                  cases eR
                  obtain ⟨f1, r4, n4, p4⟩ := r4
                  have s02 := s'.trans s2
                  have oldIn : ∀ p ∈ fp, (H2 : Hp) p ≠ none := fun p hp z => by
                    have := (rA.own p hp).1
                    cases q : Hc p with
                    | none => exact this q
                    | some o => rw [s02.hh _ _ q] at z; cases z
                  have dIn : (H2 : Hp) Da ≠ none := fun z => by rw [s02.hh _ _ hA] at z; cases z
                  have rA5 := rA.step s5
                  obtain ⟨f', rs, ef⟩ := RTL.snoc (H := upd H4 Da (HO.lst (acc ++ [v]))) (G := G4) (k := .r sh) rfl
                    (rA5.mono (Same.refl _) fun p hp => ⟨(rA5.own p hp).2, upd_ne (fun z => dA (z ▸ hp))⟩)
                    (r4.mono (Same.refl _) fun p hp => ⟨(r4.own p hp).2, upd_ne (fun z => dIn (z ▸ p4 p hp))⟩)
                  subst ef
                  refine ⟨G4, acc ++ [v], accD ++ [y], r5, fp ++ f1, st5.atD hD g5, upd_same, g5, ⟨rs, List.nodup_append.mpr ⟨nA, n4, fun x hx z hz q => ?_⟩, fun z => ?_, fun p hp => ?_⟩, by rw [List.length_append]; exact Nat.succ_le_succ lA, rfl, ?_⟩
                  · subst q
                    exact oldIn x hx (p4 x hz)
                  · rcases List.mem_append.mp z with z | z
                    · exact dA z
                    · exact dIn (p4 _ z)
                  · rcases List.mem_append.mp hp with hp | hp
                    · exact pA p hp
                    · exact Same.free (st.hh.trans s02.hh) (p4 p hp)
                  rw [List.append_assoc]
                  exact eA
      · have : i = ds.length := by omega
        subst this
        rw [List.drop_length] at eR
        have eR : Rs.ok ([] : List D) = Rs.ok rest := eR
        cases eR
        rw [List.append_nil] at eA
        subst eA
        exact .inl ⟨(it _ Hc Gc st.gg sb).1 (Nat.le_refl _), wd _ Hc Gc (s1.trans st) ⟨Da :: fp, .lst rfl hA gA rA, List.nodup_cons.mpr ⟨dA, nA⟩, fun p hp => by
            rcases List.mem_cons.mp hp with rfl | hp
            · exact Same.free s1.hh hD
            · exact Same.free s1.hh (pA p hp)⟩⟩
  · rw [if_neg hl] at wd
    exact wd.elim
theorem xcompW {sh : Sh} {ex tge iter : Expr} {is vs : List Nat} {f : Rho → Rs (List D)} {tg : Tg} {c : Rho → Rs Bool} {e : Rho → Rs D} (hs : ∀ j ∈ is, j ∈ vs)
    (hp : ∀ wi, PI S.X tge iter wi → PE S.X ex (tLc wi (uG S is tg) (uT S c) (uE S (.w sh) e) vs)) (h1 : XI S tge iter f) : XX S (.w (.r sh)) ex (fComp vs f tg c e) :=
  let ⟨_, a1, a2⟩ := h1; ⟨_, hp _ a1, tv_compW hs a2⟩
end
end Ct

/-! own lists joined, any, chains, lists of ints compared, the least of several lists -/
namespace Ct
open PySem PySem.Spec PyProof.Rows L2

theorem ops_catS : OpS .s .s .o rCat sCat := fun H G x y dx dy Q s hx hy w => by
  unfold sCat at w
  split at w
  · split at w
    · rename_i hl
      obtain ⟨p, xs, rfl, h1, l1⟩ := hx
      obtain ⟨q, ys, rfl, h2, l2⟩ := hy
      refine ⟨p, q, xs, ys, rfl, rfl, h1, h2, by rw [l1.length, l2.length]; exact hl, fun n hn => ?_⟩
      exact w _ _ _ (Step.newO s hn) ⟨n, _, _, rfl, rfl, upd_same, hn, Same.free s hn, l1.append l2⟩
    · exact w.elim
  · exact w.elim
def llD : List D → Option (List (List Int))
  | [] => some []
  | .list es :: r => (intsD es).bind fun ns => (llD r).map (ns :: ·)
  | _ :: _ => none
theorem llD_map : ∀ ls : List (List Int), llD (ls.map fun ns => PyData.list (ns.map PyData.int)) = some ls
  | [] => rfl
  | n :: ls => by
    show (intsD (n.map PyData.int)).bind (fun ns => (llD (ls.map fun ns => PyData.list (ns.map PyData.int))).map (ns :: ·)) = _
    rw [intsD_map, llD_map ls]
    rfl
theorem llD_eq : ∀ {ds : List D} {ls : List (List Int)}, llD ds = some ls → ds = ls.map fun ns => PyData.list (ns.map PyData.int)
  | [], ls, h => by cases h; rfl
  | .list es :: r, ls, h => by
    have h : (intsD es).bind (fun ns => (llD r).map (ns :: ·)) = some ls := h
    cases e : intsD es with
    | none => rw [e] at h; cases h
    | some ns =>
      rw [e] at h
      have h : (llD r).map (ns :: ·) = some ls := h
      cases e2 : llD r with
      | none => rw [e2] at h; cases h
      | some ms =>
        rw [e2] at h
        cases h
        rw [intsD_eq e, llD_eq e2]
        rfl
  | .none :: _, _, h => by cases h
  | .bool _ :: _, _, h => by cases h
  | .int _ :: _, _, h => by cases h
  | .str _ :: _, _, h => by cases h
  | .tuple _ :: _, _, h => by cases h
  | .dict _ :: _, _, h => by cases h
/-- the least list, the first of several -/
def minLs : List (List Int) → List Int
  | [] => []
  | n :: ls => ls.foldl (fun a y => if _root_.HT.lexLt y a then y else a) n
def sLtL : D → D → Rs D
  | .list a, .list b => match intsD a, intsD b with
    | some ns, some ms => .ok (.bool (_root_.HT.lexLt ns ms))
    | _, _ => .stuck
  | _, _ => .stuck
theorem nx_ltL (x y : D) : NoX (sLtL x y) := by
  unfold sLtL
  split
  · split <;> first | exact noX_ok _ | exact noX_stuck
  · exact noX_stuck
theorem ops_ltL {K : PySem.W.Frag} : OpS .b .b .e (rLtL K) sLtL := fun H G x y dx dy Q s hx hy w => by
  unfold sLtL at w
  split at w
  · split at w
    · rename_i a b ns ms ha hb
      cases intsD_eq ha
      cases intsD_eq hb
      obtain ⟨p, xs, rfl, h1, l1⟩ := Rp.lst_inv hx
      obtain ⟨q, ys, rfl, h2, l2⟩ := Rp.lst_inv hy
      cases l1.ints
      cases l2.ints
      exact ⟨p, q, ns, ms, rfl, rfl, .of h1, .of h2, wp_ok w _ H G (Step.refl s) (.bl _)⟩
    · exact w.elim
  · exact w.elim
def boolsD : List D → Option (List Bool)
  | [] => some []
  | .bool i :: r => (boolsD r).map (i :: ·)
  | _ :: _ => none
theorem boolsD_map : ∀ ns : List Bool, boolsD (ns.map PyData.bool) = some ns
  | [] => rfl
  | n :: ns => by
    show (boolsD (ns.map PyData.bool)).map (n :: ·) = _
    rw [boolsD_map ns]
    rfl
theorem RpL.bools {G : Hp} : ∀ {vs : List V} {ds : List D} {ns : List Bool}, RpL G vs ds → boolsD ds = some ns → vs = ns.map V.bl
  | _, _, ns, .nil, h => by cases h; rfl
  | _, _, ns, .cons (ds := es) a b, h => by
    cases a with
    | bl i =>
      have h : (boolsD es).map (i :: ·) = some ns := h
      cases e : boolsD es with
      | none => rw [e] at h; cases h
      | some ms =>
        rw [e] at h
        cases h
        rw [RpL.bools b e]
        rfl
    | _ => cases h
def sAny : D → Rs D
  | .list ds => match boolsD ds with
    | some bs => .ok (.bool (bs.any id))
    | none => .stuck
  | _ => .stuck
theorem nx_any (x : D) : NoX (sAny x) := by
  unfold sAny
  split
  · split <;> first | exact noX_ok _ | exact noX_stuck
  · exact noX_stuck
/-- a < b < c and its like -/
def fCh (o o' : D → D → Rs D) (fa fb fc : Rho → Rs D) : Rho → Rs D := fun ρ => (fa ρ).bind fun x => (fb ρ).bind fun y => (o x y).bind fun z => match z with
  | .bool true => (fc ρ).bind fun u => o' y u
  | .bool false => .ok (.bool false)
  | _ => .stuck
section
variable {S : Sx} {a b c e : Expr} {fa fb fc f : Rho → Rs D} {pos p : Pos}
theorem xcatS (ha : XX S .s a fa) (hb : XX S .s b fb) : XX S .o (.BinOp a .Add b pos) (fBin sCat fa fb) :=
  let ⟨_, a1, a2⟩ := ha; let ⟨_, b1, b2⟩ := hb; ⟨_, pe_op op_cat a1 b1, tv_op (ki := .s) (kj := .s) trivial trivial nx_cat ops_catS a2 b2⟩
theorem xltL (hu : S.X.A.units + 64 < cLine) (ha : XX S .b a fa) (hb : XX S .b b fb) : XX S .e (.Compare a [.Lt] [b] pos) (fBin sLtL fa fb) :=
  let ⟨_, a1, a2⟩ := ha; let ⟨_, b1, b2⟩ := hb; ⟨_, pe_cmpR (op_ltL (by omega)) a1 b1 (nomark _), tv_op (ki := .b) (kj := .b) trivial trivial nx_ltL ops_ltL a2 b2⟩
theorem tltL (hu : S.X.A.units + 64 < cLine) (ha : XX S .b a fa) (hb : XX S .b b fb) : XT S (.Compare a [.Lt] [b] pos) (toB (fBin sLtL fa fb)) :=
  let ⟨_, a1, a2⟩ := ha; let ⟨_, b1, b2⟩ := hb; ⟨_, pt_cmpR (op_ltL (by omega)) a1 b1 (nomark _), tb_of (k := .b) (TV.e_b (tv_op (ki := .b) (kj := .b) trivial trivial nx_ltL ops_ltL a2 b2))⟩
theorem xany {g : Rho → Rs (List D)} (hc : S.X.calm = true) (hm : S.X.mg "any" = none) (h : XA S .b [e] g) (hg : Gl S.X "any" := by rfl) (he : starEach (e :: []) S.X.env = (false, eval e S.X.env) :: starEach [] S.X.env := by rfl) (hpl : (backTo pos (starEach [] S.X.env)).any (·.1) = false := by rfl) :
    XX S .e (.Call (.Name "any" p) [e] [] pos) (fCl (o1 sAny) g) :=
  let ⟨_, a1, a2⟩ := h
  ⟨_, pe_callB (cr_any hc) hg hm (by decide +kernel) a1 (he := he) (hpl := hpl), tv_cb (ki := .b) (nx_o1 nx_any) (cls1 fun H G v d Q s r _ w => by
    unfold sAny at w
    split at w
    · split at w
      · rename_i ds ns he
        obtain ⟨p, xs, rfl, h, hl⟩ := Rp.lst_inv r
        cases hl.bools he
        exact ⟨p, ns, rfl, .of h, wp_ok w _ H G (Step.refl s) (.bl _)⟩
      · exact w.elim
    · exact w.elim) a2⟩
theorem tv_chain {r r' : R2} {o o' : D → D → Rs D} {ta tb tc : TE} (nx : ∀ x y, NoX (o x y)) (nx' : ∀ x y, NoX (o' x y)) (ho : OpS .e .e .e r o) (ho' : OpS .e .e .e r' o') (ha : TV S .e ta fa) (hb : TV S .e tb fb) (hc : TV S .e tc fc) : TV S .e (tChain r r' ta tb tc) (fCh o o' fa fb fc) := fun H0 G0 σ H G ρ Q q w => by
  refine ha H0 G0 σ H G ρ _ q (Wp.imp w.bind (fun x wx v H1 G1 s1 r1 => ?_) fun _ z => z)
  have q1 := q.step s1
  refine hb H0 G0 σ H1 G1 ρ _ q1 (Wp.imp wx.bind (fun y wy u H2 G2 s2 r2 => ?_) fun e z => z.step s1)
  have s12 := s1.trans s2
  refine ho H2 G2 v u x y _ s12.sub (Rp.mono s2.gg r1) r2 (Wp.imp (Wp.noX (E' := fun _ => False) (nx x y) wy.bind) (fun z wz v' H3 G3 s3 r3 => ?_) fun _ z => z)
  have s13 := s12.trans s3
  have r3 : Rp G3 v' z := r3
  cases z with
  | bool k =>
    cases Rp.bl_inv r3
    refine ⟨k, rfl, ?_⟩
    cases k with
    | false => exact iteF (wp_ok (E := ExW S σ H G) wz _ _ G3 s13 (.bl _))
    | true =>
      refine iteT (hc H0 G0 σ H3 G3 ρ _ (q.step s13) (Wp.imp (Wp.bind wz) (fun d wd w' H4 G4 s4 r4 => ?_) fun e z => z.step s13))
      have s14 := s13.trans s4
      exact ho' H4 G4 u w' y d _ s14.sub (Rp.mono (s3.gg.trans s4.gg) r2) r4 (Wp.imp (Wp.noX (E' := fun _ => False) (nx' y d) wd) (fun d' qd v'' H' G' s5 r5 => qd v'' H' G' (s14.trans s5) r5) fun _ z => z)
  | _ => exact wz.elim
end
/-- int comparisons -/
theorem ops_lt : OpS .e .e .e (rI0 fun i j => V.bl (decide (i < j))) sLt := ops_int (gv := fun i j => .bl (decide (i < j))) (fun i j H Q q => ⟨i, j, rfl, rfl, q⟩) (fun _ _ _ => .bl _) (fun _ _ => rfl) t_lt
theorem ops_le : OpS .e .e .e (rI0 fun i j => V.bl (decide (i ≤ j))) sLe := ops_int (gv := fun i j => .bl (decide (i ≤ j))) (fun i j H Q q => ⟨i, j, rfl, rfl, q⟩) (fun _ _ _ => .bl _) (fun _ _ => rfl) t_le
section
variable {S : Sx} {a b c : Expr} {fa fb fc : Rho → Rs D} {pos : Pos}
theorem xchLL (ha : XX S .e a fa) (hb : XX S .e b fb) (hc : XX S .e c fc) (hm : lastMarks [.Lt, .Lt] [b, c] = false := by with_unfolding_all rfl) : XX S .e (.Compare a [.Lt, .Lt] [b, c] pos) (fCh sLt sLt fa fb fc) :=
  let ⟨_, a1, a2⟩ := ha; let ⟨_, b1, b2⟩ := hb; let ⟨_, c1, c2⟩ := hc; ⟨_, pe_chain op_lt op_lt a1 b1 c1 hm, tv_chain (two_ints t_lt (fun _ _ => rfl)) (two_ints t_lt (fun _ _ => rfl)) ops_lt ops_lt a2 b2 c2⟩
theorem xchEE (ha : XX S .e a fa) (hb : XX S .e b fb) (hc : XX S .e c fc) (hm : lastMarks [.LtE, .LtE] [b, c] = false := by with_unfolding_all rfl) : XX S .e (.Compare a [.LtE, .LtE] [b, c] pos) (fCh sLe sLe fa fb fc) :=
  let ⟨_, a1, a2⟩ := ha; let ⟨_, b1, b2⟩ := hb; let ⟨_, c1, c2⟩ := hc; ⟨_, pe_chain op_le op_le a1 b1 c1 hm, tv_chain (two_ints t_le (fun _ _ => rfl)) (two_ints t_le (fun _ _ => rfl)) ops_le ops_le a2 b2 c2⟩
theorem tchLL (ha : XX S .e a fa) (hb : XX S .e b fb) (hc : XX S .e c fc) (hm : lastMarks [.Lt, .Lt] [b, c] = false := by with_unfolding_all rfl) : XT S (.Compare a [.Lt, .Lt] [b, c] pos) (toB (fCh sLt sLt fa fb fc)) :=
  let ⟨_, a1, a2⟩ := ha; let ⟨_, b1, b2⟩ := hb; let ⟨_, c1, c2⟩ := hc; ⟨_, pt_chain op_lt op_lt a1 b1 c1 hm, tb_of (k := .b) (TV.e_b (tv_chain (two_ints t_lt (fun _ _ => rfl)) (two_ints t_lt (fun _ _ => rfl)) ops_lt ops_lt a2 b2 c2))⟩
theorem tchEE (ha : XX S .e a fa) (hb : XX S .e b fb) (hc : XX S .e c fc) (hm : lastMarks [.LtE, .LtE] [b, c] = false := by with_unfolding_all rfl) : XT S (.Compare a [.LtE, .LtE] [b, c] pos) (toB (fCh sLe sLe fa fb fc)) :=
  let ⟨_, a1, a2⟩ := ha; let ⟨_, b1, b2⟩ := hb; let ⟨_, c1, c2⟩ := hc; ⟨_, pt_chain op_le op_le a1 b1 c1 hm, tb_of (k := .b) (TV.e_b (tv_chain (two_ints t_le (fun _ _ => rfl)) (two_ints t_le (fun _ _ => rfl)) ops_le ops_le a2 b2 c2))⟩
end

/-- the least of several lists of ints, as it stands in the list -/
def rMinL (K : PySem.W.Frag) : List V → Hp → VK → Prop := fun vs H Q => ∃ (a : Addr) (ps : List Addr) (ls : List (List Int)), vs = [.ref a] ∧ SqL K H a (ps.map V.ref) ∧ ps.length = ls.length ∧ ls ≠ [] ∧
  (∀ (i : Nat) (p : Addr) (ns : List Int), ps[i]? = some p → ls[i]? = some ns → SqL K H p (ns.map V.int)) ∧ ∀ (j : Nat) (p : Addr), ps[j]? = some p → ls[j]? = some (minLs ls) → Q (.ref p) H
theorem minLs_best {ls : List (List Int)} (h : ls ≠ []) : ls[argBest (fun i j => _root_.HT.lexLt (ls.getD i []) (ls.getD j [])) (ls.length - 1)]? = some (minLs ls) ∧ argBest (fun i j => _root_.HT.lexLt (ls.getD i []) (ls.getD j [])) (ls.length - 1) < ls.length := by
  cases ls with
  | nil => exact absurd rfl h
  | cons n ls =>
    obtain ⟨e1, e2⟩ := PySem.W.argBest_fold _root_.HT.lexLt ([] : List Int) n ls ls.length (Nat.le_refl _)
    rw [List.take_length] at e2
    have l : (n :: ls).length - 1 = ls.length := rfl
    rw [l]
    have lt : argBest (fun i j => _root_.HT.lexLt ((n :: ls).getD i []) ((n :: ls).getD j [])) ls.length < (n :: ls).length := by rw [List.length_cons]; omega
    refine ⟨?_, lt⟩
    rw [List.getElem?_eq_getElem lt]
    rw [List.getD_eq_getElem?_getD, List.getElem?_eq_getElem lt] at e2
    exact congrArg some e2
theorem cmp_lists {X : Cx} {pins : List (Addr × Obj)} {σ : L2.St} {H : Hp} {s : Shared} {A : Around} (I : Inv X pins σ H s) (hu : A.units < cLine) {ps : List Addr} {ls : List (List Int)} (hp : ∀ (i : Nat) (p : Addr) (ns : List Int), ps[i]? = some p → ls[i]? = some ns → SqL X.K H p (ns.map V.int)) (hl : ps.length = ls.length)
    {Pv : Nat → Value → Prop} (hv : ∀ i v, Pv i v → ∃ p, ps[i]? = some p ∧ v = .ref p) : CmpIn X.prog X.w A .Lt s.heap Pv (fun i j => _root_.HT.lexLt (ls.getD i []) (ls.getD j [])) := by
  intro i j vi vj s' Q E keep hi hj q
  obtain ⟨p, ep, rfl⟩ := hv i vi hi
  obtain ⟨r, er, rfl⟩ := hv j vj hj
  have li : i < ls.length := by rw [← hl]; exact (List.getElem?_eq_some_iff.mp ep).1
  have lj : j < ls.length := by rw [← hl]; exact (List.getElem?_eq_some_iff.mp er).1
  obtain ⟨its, r1, p1, _⟩ := I.list (hp i p _ ep (List.getElem?_eq_getElem li))
  obtain ⟨its2, r2, p2, _⟩ := I.list (hp j r _ er (List.getElem?_eq_getElem lj))
  have k1 : s'.heap.IsList p its.toArray := by
    obtain ⟨o, eo, z⟩ := p1.isList
    exact ⟨o, keep _ _ eo, z⟩
  have k2 : s'.heap.IsList r its2.toArray := by
    obtain ⟨o, eo, z⟩ := p2.isList
    exact ⟨o, keep _ _ eo, z⟩
  refine SeqAt.ct_lt_lists k1 k2 (by simpa using r1.ints) (by simpa using r2.ints) hu E Q ?_
  have e1 : ls.getD i [] = ls[i] := by rw [List.getD_eq_getElem?_getD, List.getElem?_eq_getElem li]; rfl
  have e2 : ls.getD j [] = ls[j] := by rw [List.getD_eq_getElem?_getD, List.getElem?_eq_getElem lj]; rfl
  rw [← e1, ← e2]
  exact q
theorem vals_refs : ∀ {ps : List Addr} {us : List Value}, Vals (ps.map V.ref) us → us = ps.map Value.ref
  | [], us, h => by cases h; rfl
  | p :: ps, _, h => by
    rw [List.map_cons] at h
    cases h with
    | cons a b =>
      cases (show _ = Value.ref p from a)
      rw [vals_refs b]
      rfl
theorem cr_minL {X : Cx} (hu : X.A.units + 2 < cLine) (hc : X.calm = true) : CallR X (.builtin "min") (rMinL X.K) := by
  intro pins s σ H vs us Q I r h
  obtain ⟨a, ps, ls, rfl, hs, hl, hne, hp, q⟩ := h
  obtain ⟨its, rv, pl, _⟩ := I.list hs
  rw [Vals.ref1 r]
  have ei := vals_refs rv
  have hlen : its.toArray.size = ls.length := by rw [List.size_toArray, ei, List.length_map, hl]
  refine call_min_walkH (PySem.W.iter_listW (A := X.A.in1) (I.ok.hd hc) pl.isList fun s₂ e W st hfp hw hk => ?_)
  obtain ⟨b1, b2⟩ := minLs_best hne
  refine ⟨_, _, _, _, _, _, _, s.heap, _, rfl, W, st, hfp, by rw [hlen]; exact List.length_pos_iff.mpr hne, hw, hk, cmp_lists I (A := X.A.in1) (by show X.A.units + 1 < cLine; omega) hp hl (fun i v hv => ?_), fun v s' hP m => ?_⟩
  · rw [List.getElem?_toArray, ei, List.getElem?_map] at hv
    obtain ⟨p, e1, e2⟩ := Option.map_eq_some_iff.mp hv
    exact ⟨p, e1, e2.symm⟩
  · obtain ⟨h', tk, rfl, hk'⟩ := PySem.W.moved_old e rfl m
    rw [hlen] at hP
    rw [List.getElem?_toArray, ei, List.getElem?_map] at hP
    obtain ⟨p, e1, e2⟩ := Option.map_eq_some_iff.mp hP
    subst e2
    exact ⟨.ref p, H, I.kept (t' := tk) hk', rfl, q _ p e1 b1⟩
def sMinL : D → Rs D
  | .list ds => match llD ds with
    | some (n :: ls) => .ok (.list ((minLs (n :: ls)).map PyData.int))
    | _ => .stuck
  | _ => .stuck
theorem nx_minL (x : D) : NoX (sMinL x) := by
  unfold sMinL
  split
  · split <;> first | exact noX_ok _ | exact noX_stuck
  · exact noX_stuck
/-- lists of lists of ints -/
theorem RpL.lists {G : Hp} : ∀ {vs : List V} {ls : List (List Int)}, RpL G vs (ls.map fun ns => PyData.list (ns.map PyData.int)) → ∃ ps : List Addr, vs = ps.map V.ref ∧ ps.length = ls.length ∧ ∀ (i : Nat) (p : Addr) (ns : List Int), ps[i]? = some p → ls[i]? = some ns → G p = some (.lst (ns.map V.int)) ∧ Rp G (.ref p) (.list (ns.map PyData.int))
  | _, [], .nil => ⟨[], rfl, rfl, fun i p ns h _ => by simp at h⟩
  | _, n :: ls, .cons a b => by
    obtain ⟨ps, e1, e2, e3⟩ := RpL.lists (ls := ls) b
    obtain ⟨p, xs, rfl, h1, h2⟩ := Rp.lst_inv a
    cases h2.ints
    refine ⟨p :: ps, by rw [e1]; rfl, by rw [List.length_cons, List.length_cons, e2], fun i q ns hq hn => ?_⟩
    cases i with
    | zero =>
      cases hq
      cases hn
      exact ⟨h1, a⟩
    | succ i => exact e3 i q ns hq hn
section
variable {S : Sx} {e : Expr} {pos p : Pos}
theorem xminL {g : Rho → Rs (List D)} (hu : S.X.A.units + 64 < cLine) (hc : S.X.calm = true) (hm : S.X.mg "min" = none) (h : XA S .e [e] g) (hg : Gl S.X "min" := by rfl) (he : starEach (e :: []) S.X.env = (false, eval e S.X.env) :: starEach [] S.X.env := by rfl) (hpl : (backTo pos (starEach [] S.X.env)).any (·.1) = false := by rfl) :
    XX S .e (.Call (.Name "min" p) [e] [] pos) (fCl (o1 sMinL) g) :=
  let ⟨_, a1, a2⟩ := h
  ⟨_, pe_callB (cr_minL (by omega) hc) hg hm (by decide +kernel) a1 (he := he) (hpl := hpl), tv_cb (ki := .e) (nx_o1 nx_minL) (cls1 fun H G v d Q s r re w => by
    have re := re rfl
    unfold sMinL at w
    split at w
    · split at w
      · rename_i ds n ls he
        cases llD_eq he
        obtain ⟨p, xs, rfl, h, hl⟩ := Rp.lst_inv re
        obtain ⟨ps, rfl, e2, e3⟩ := RpL.lists (ls := n :: ls) hl
        refine ⟨p, ps, n :: ls, rfl, .of (s _ _ h), e2, List.cons_ne_nil _ _, fun i q ns hq hn => .of (s _ _ (e3 i q ns hq hn).1), fun j q hq hn => ?_⟩
        exact wp_ok w _ H G (Step.refl s) (e3 j q _ hq hn).2
      · exact w.elim
    · exact w.elim) a2⟩
end
end Ct

/-! dicts -/
namespace Ct
open PySem PySem.Spec PyProof.Rows L2

def isKey (n : Int) : D → Bool
  | .int m => decide (m = n)
  | _ => false
def getK (es : List (D × D)) (n : Int) : Option D := (es.find? fun p => isKey n p.1).map (·.2)
def putD (es : List (D × D)) (n : Int) (d : D) : List (D × D) := if (es.any fun p => isKey n p.1) = true then es.map (fun p => if isKey n p.1 = true then (p.1, d) else p) else es ++ [(.int n, d)]
def isInt1 : D → Bool
  | .int _ => true
  | _ => false
theorem rpk_any {G : Hp} (n : Int) : ∀ {kvs : List (Key × V)} {es : List (D × D)}, RpK G kvs es → (kvs.any fun kv => decide (kv.1 = Sum.inl n)) = (es.any fun p => isKey n p.1)
  | _, _, .nil => rfl
  | _, _, .cons (n := m) h r => by
    rw [List.any_cons, List.any_cons, rpk_any n r]
    congr 1
    show decide ((Sum.inl m : Key) = Sum.inl n) = decide (m = n)
    by_cases e : m = n
    · subst e; simp
    · rw [decide_eq_false e, decide_eq_false (fun z => e (Sum.inl.inj z))]
theorem rpk_get {G : Hp} (n : Int) : ∀ {kvs : List (Key × V)} {es : List (D × D)}, RpK G kvs es → (∀ d, getK es n = some d → ∃ v, valV kvs (Sum.inl n) = some v ∧ Rp G v d) ∧ (getK es n = none → valV kvs (Sum.inl n) = none)
  | _, _, .nil => ⟨fun d h => (by cases h), fun _ => rfl⟩
  | _, _, .cons (n := m) (v := v) (d := d0) (kvs := kvs) (es := es) h r => by
    by_cases e : m = n
    · subst e
      have a : getK ((.int m, d0) :: es) m = some d0 := by simp [getK, isKey]
      have b : valV ((Sum.inl m, v) :: kvs) (Sum.inl m : Key) = some v := valV_pos rfl
      rw [a, b]
      exact ⟨fun d q => (by cases q; exact ⟨v, rfl, h⟩), fun q => (by cases q)⟩
    · have a : getK ((.int m, d0) :: es) n = getK es n := by simp [getK, isKey, e]
      have b : valV ((Sum.inl m, v) :: kvs) (Sum.inl n : Key) = valV kvs (Sum.inl n) := valV_neg (fun z => e (Sum.inl.inj z))
      rw [a, b]
      exact rpk_get n r
theorem rpk_map {G : Hp} (n : Int) {y : V} {d : D} (hy : Rp G y d) : ∀ {kvs : List (Key × V)} {es : List (D × D)}, RpK G kvs es → RpK G (kvs.map fun kv => if kv.1 = Sum.inl n then (kv.1, y) else kv) (es.map fun p => if isKey n p.1 = true then (p.1, d) else p)
  | _, _, .nil => .nil
  | _, _, .cons (n := m) (v := v) (d := d0) h r => by
    rw [List.map_cons, List.map_cons]
    by_cases e : m = n
    · subst e
      rw [if_pos rfl, if_pos (by simp [isKey])]
      exact .cons hy (rpk_map m hy r)
    · rw [if_neg (fun z => e (Sum.inl.inj z)), if_neg (by simp [isKey, e])]
      exact .cons h (rpk_map n hy r)
theorem rpk_snoc {G : Hp} (n : Int) {y : V} {d : D} (hy : Rp G y d) : ∀ {kvs : List (Key × V)} {es : List (D × D)}, RpK G kvs es → RpK G (kvs ++ [(Sum.inl n, y)]) (es ++ [(.int n, d)])
  | _, _, .nil => .cons hy .nil
  | _, _, .cons h r => .cons h (rpk_snoc n hy r)
theorem rpk_put {G : Hp} (n : Int) {y : V} {d : D} (hy : Rp G y d) {kvs : List (Key × V)} {es : List (D × D)} (r : RpK G kvs es) : RpK G (putK kvs (Sum.inl n) y) (putD es n d) := by
  unfold putK putD
  rw [rpk_any n r]
  split
  · exact rpk_map n hy r
  · exact rpk_snoc n hy r
theorem rpk_len {G : Hp} : ∀ {kvs : List (Key × V)} {es : List (D × D)}, RpK G kvs es → kvs.length = es.length
  | _, _, .nil => rfl
  | _, _, .cons _ r => by rw [List.length_cons, List.length_cons, rpk_len r]
/-- the entry i -/
theorem rpk_at {G : Hp} : ∀ {kvs : List (Key × V)} {es : List (D × D)} {i : Nat} {p : D × D}, RpK G kvs es → es[i]? = some p → ∃ n v, kvs[i]? = some (Sum.inl n, v) ∧ p.1 = .int n ∧ Rp G v p.2
  | _, _, _, _, .nil, e => by simp at e
  | _, _, 0, _, .cons (n := n) (v := v) h r, e => by
    cases e
    exact ⟨n, v, rfl, rfl, h⟩
  | _, _, i + 1, _, .cons h r, e => rpk_at (i := i) r e
theorem Rp.dct_inv {G : Hp} {v : V} {es : List (D × D)} (h : Rp G v (.dict es)) (hk : es.all (fun p => isInt1 p.1) = true) : ∃ a o kvs, v = .ref a ∧ G a = some (.frz o (.dK kvs)) ∧ RpK G kvs es := by
  cases h with
  | dct h r => exact ⟨_, _, _, rfl, h, r⟩
  | ins h r => simp [isInt1] at hk
  | scr h r => simp [isInt1] at hk
/-- a told dict is read -/
def fD (f : Rho → Rs D) : Rho → Rs D := fun ρ => (f ρ).bind fun d => match d with
  | .dict es => if es.all (fun p => isInt1 p.1) = true then .ok (.dict es) else .stuck
  | _ => .stuck
/-- one's own dict is read -/
def fOd (i : Nat) : Rho → Rs D := fun ρ => match ρ[i]? with
  | some (.od es) => .ok (.dict es)
  | _ => .stuck
def sDGet : D → D → Rs D
  | .dict es, .int n => match getK es n with
    | some d => .ok d
    | none => .stuck
  | _, _ => .stuck
def sDIn : D → D → Rs D
  | .int n, .dict es => .ok (.bool (getK es n).isSome)
  | _, _ => .stuck
def sDNotIn : D → D → Rs D
  | .int n, .dict es => .ok (.bool (!(getK es n).isSome))
  | _, _ => .stuck
theorem nx_dget (x y : D) : NoX (sDGet x y) := by
  unfold sDGet
  split
  · split <;> first | exact noX_ok _ | exact noX_stuck
  · exact noX_stuck
theorem nx_din (x y : D) : NoX (sDIn x y) := by unfold sDIn; split <;> first | exact noX_ok _ | exact noX_stuck
theorem nx_dnin (x y : D) : NoX (sDNotIn x y) := by unfold sDNotIn; split <;> first | exact noX_ok _ | exact noX_stuck
theorem rd_get {H G : Hp} {v : V} {es : List (D × D)} (n : Int) (r : RD H G v (.dict es)) : ∃ a, v = .ref a ∧ (∀ d, getK es n = some d → ∃ u, DGet H a (.int n) (some u) ∧ Rp G u d) ∧ ∃ o, DGet H a (.int n) o ∧ o.isSome = (getK es n).isSome := by
  obtain ⟨a, kvs, es', e, rfl, hr, rk⟩ := r
  cases e
  obtain ⟨g1, g2⟩ := rpk_get n rk
  have base : DGet H a (.int n) (valV kvs (Sum.inl n)) := .inl ⟨kvs, Sum.inl n, hr, rfl, rfl⟩
  refine ⟨a, rfl, fun d hd => ?_, _, base, ?_⟩
  · obtain ⟨u, e1, e2⟩ := g1 d hd
    rw [e1] at base
    exact ⟨u, base, e2⟩
  · cases e : getK es n with
    | none => rw [g2 e]; rfl
    | some d =>
      obtain ⟨u, e1, _⟩ := g1 d e
      rw [e1]
      rfl
section
variable {S : Sx} {a b : Expr} {fa fb f : Rho → Rs D} {pos p : Pos} {i : Nat}
theorem xd_e (h : XX S .e a f) : XX S .d a (fD f) := let ⟨t, a1, a2⟩ := h; ⟨t, a1, fun H0 G0 σ H G ρ Q q w => a2 H0 G0 σ H G ρ Q q (Wp.imp w.bind (fun d wd v H' G' s r => by
  split at wd
  · rename_i es
    split at wd
    · rename_i hk
      have r : Rp G' v (.dict es) := r
      obtain ⟨ad, o, kvs, rfl, h1, h2⟩ := r.dct_inv hk
      exact wp_ok (E := ExW S σ H G) wd _ H' G' s ⟨ad, kvs, es, rfl, rfl, .inr ⟨o, s.sub _ _ h1⟩, h2⟩
    · exact wd.elim
  · exact wd.elim) fun _ z => z)⟩
theorem td_own (i : Nat) : TV S .d (tVar i) (fOd i) := fun H0 G0 σ H G ρ Q q w => by
  unfold fOd at w
  split at w
  · rename_i es e
    obtain ⟨ov, e1, p, kvs, rfl, h1, h2, h3, h4⟩ := q.sl i _ e
    exact ⟨_, e1, w _ H G (Step.refl q.st.sub) ⟨p, kvs, es, rfl, rfl, .inl h1, h4⟩⟩
  · exact w.elim
theorem xd_o (i : Nat) {x : Str} {pos : Pos} (hN : S.X.N[i]? = some x := by rfl) (hv : Vis S.X.env.scope x := by first | exact Or.inl rfl | exact Or.inr (Or.inl rfl) | exact Or.inr (Or.inr rfl)) (hd : (x == ("__debug__" : Str)) = false := by decide)
    (hcd : (x == ("__classdict__" : Str)) = false := by decide) : XX S .d (.Name x pos) (fOd i) := ⟨_, pe_var hN hv hd hcd, td_own i⟩
/-- d[k] -/
theorem xdget (hu : S.X.A.units + 64 < cLine) (ha : XX S .d a fa) (hb : XX S .e b fb) (hs : NoSl b := by exact fun _ _ => rfl) : XX S .e (.Subscript a b pos) (fBin sDGet fa fb) :=
  let ⟨_, a1, a2⟩ := ha; let ⟨_, b1, b2⟩ := hb; ⟨_, pe_dget (by omega) a1 b1 hs, fun H0 G0 σ H G ρ Q q w => by
    refine a2 H0 G0 σ H G ρ _ q (Wp.imp w.bind (fun x wx v H1 G1 s1 r1 => ?_) fun _ z => z)
    refine b2 H0 G0 σ H1 G1 ρ _ (q.step s1) (Wp.imp wx.bind (fun y wy u H2 G2 s2 r2 => ?_) fun e z => z.step s1)
    have r3 := RD.step s2 r1
    have wy : Wp (sDGet x y) _ _ := wy
    unfold sDGet at wy
    split at wy
    · rename_i es n _
      cases Rp.int_inv r2
      obtain ⟨ad, rfl, g, _⟩ := rd_get n r3
      split at wy
      · rename_i d e
        obtain ⟨u, g1, g2⟩ := g d e
        exact ⟨ad, u, rfl, g1, wp_ok wy _ H2 G2 (s1.trans s2) g2⟩
      · exact wy.elim
    · exact wy.elim⟩
theorem tv_din {ta tb : TE} (ha : TV S .e ta fa) (hb : TV S .d tb fb) : TV S .e (tDIn ta tb) (fBin sDIn fa fb) := fun H0 G0 σ H G ρ Q q w => by
  refine ha H0 G0 σ H G ρ _ q (Wp.imp w.bind (fun x wx v H1 G1 s1 r1 => ?_) fun _ z => z)
  refine hb H0 G0 σ H1 G1 ρ _ (q.step s1) (Wp.imp wx.bind (fun y wy u H2 G2 s2 r2 => ?_) fun e z => z.step s1)
  have wy : Wp (sDIn x y) _ _ := wy
  unfold sDIn at wy
  split at wy
  · rename_i n es _
    cases Rp.int_inv r1
    obtain ⟨ad, rfl, _, o, g, go⟩ := rd_get n r2
    refine ⟨ad, o, rfl, g, ?_⟩
    rw [go]
    exact wp_ok wy _ H2 G2 (s1.trans s2) (.bl _)
  · exact wy.elim
theorem tv_dnin {ta tb : TE} (ha : TV S .e ta fa) (hb : TV S .d tb fb) : TV S .e (tDNotIn ta tb) (fBin sDNotIn fa fb) := fun H0 G0 σ H G ρ Q q w => by
  refine ha H0 G0 σ H G ρ _ q (Wp.imp w.bind (fun x wx v H1 G1 s1 r1 => ?_) fun _ z => z)
  refine hb H0 G0 σ H1 G1 ρ _ (q.step s1) (Wp.imp wx.bind (fun y wy u H2 G2 s2 r2 => ?_) fun e z => z.step s1)
  have wy : Wp (sDNotIn x y) _ _ := wy
  unfold sDNotIn at wy
  split at wy
  · rename_i n es _
    cases Rp.int_inv r1
    obtain ⟨ad, rfl, _, o, g, go⟩ := rd_get n r2
    refine ⟨ad, o, rfl, g, ?_⟩
    rw [go]
    exact wp_ok wy _ H2 G2 (s1.trans s2) (.bl _)
  · exact wy.elim
theorem xdin (hu : S.X.A.units + 64 < cLine) (ha : XX S .e a fa) (hb : XX S .d b fb) (hm : behindInMarks .In b = false := by rfl) : XX S .e (.Compare a [.In] [b] pos) (fBin sDIn fa fb) :=
  let ⟨_, a1, a2⟩ := ha; let ⟨_, b1, b2⟩ := hb; ⟨_, pe_cmp (pc_din (by omega) a1 b1) hm, tv_din a2 b2⟩
theorem xdnin (hu : S.X.A.units + 64 < cLine) (ha : XX S .e a fa) (hb : XX S .d b fb) (hm : behindInMarks .NotIn b = false := by rfl) : XX S .e (.Compare a [.NotIn] [b] pos) (fBin sDNotIn fa fb) :=
  let ⟨_, a1, a2⟩ := ha; let ⟨_, b1, b2⟩ := hb; ⟨_, pe_cmp (pc_dnotin (by omega) a1 b1) hm, tv_dnin a2 b2⟩
theorem tdin (hu : S.X.A.units + 64 < cLine) (ha : XX S .e a fa) (hb : XX S .d b fb) (hm : behindInMarks .In b = false := by rfl) : XT S (.Compare a [.In] [b] pos) (toB (fBin sDIn fa fb)) :=
  let ⟨_, a1, a2⟩ := ha; let ⟨_, b1, b2⟩ := hb; ⟨_, pt_cmp (pc_din (by omega) a1 b1) hm, tb_of (k := .b) (TV.e_b (tv_din a2 b2))⟩
theorem tdnin (hu : S.X.A.units + 64 < cLine) (ha : XX S .e a fa) (hb : XX S .d b fb) (hm : behindInMarks .NotIn b = false := by rfl) : XT S (.Compare a [.NotIn] [b] pos) (toB (fBin sDNotIn fa fb)) :=
  let ⟨_, a1, a2⟩ := ha; let ⟨_, b1, b2⟩ := hb; ⟨_, pt_cmp (pc_dnotin (by omega) a1 b1) hm, tb_of (k := .b) (TV.e_b (tv_dnin a2 b2))⟩
/-- {} -/
theorem xdnew : XX S .m (.Dict [] [] pos) (fC (.dict [])) := ⟨_, pe_dnewK, fun H0 G0 σ H G ρ Q q w n hn => w _ _ G (Step.newO q.st.sub hn) ⟨n, [], [], rfl, rfl, upd_same, hn, Same.free q.st.sub hn, .nil⟩⟩
/-- {k: v} -/
def fDisp1 (fk fv : Rho → Rs D) : Rho → Rs D := fun ρ => (fk ρ).bind fun k => (fv ρ).bind fun v => match k with
  | .int n => .ok (.dict [(.int n, v)])
  | _ => .stuck
theorem xdisp1 (ha : XX S .e a fa) (hb : XX S .e b fb) : XX S .m (.Dict [some a] [b] pos) (fDisp1 fa fb) :=
  let ⟨_, a1, a2⟩ := ha; let ⟨_, b1, b2⟩ := hb; ⟨_, pe_disp (pps_cons a1 b1 pps_nil) (by rfl) (by rfl) (fun z => by cases z) (by simp), fun H0 G0 σ H G ρ Q q w n hn => by
    have s0 : Step H G (upd H n (HO.dK [])) G := Step.newO q.st.sub hn
    refine a2 H0 G0 σ _ G ρ _ (q.step s0) (Wp.imp w.bind (fun x wx v H1 G1 s1 r1 => ?_) fun e z => z.step s0)
    have s01 := s0.trans s1
    refine b2 H0 G0 σ H1 G1 ρ _ (q.step s01) (Wp.imp wx.bind (fun y wy u H2 G2 s2 r2 => ?_) fun e z => z.step s01)
    have s02 := s01.trans s2
    have s12 := s1.trans s2
    cases x with
    | int k =>
      cases Rp.int_inv r1
      refine ⟨s12.hh _ _ upd_same, [(Sum.inl k, u)], rfl, by simp, ?_⟩
      have gn : G2 n = none := s12.sep n (Same.free q.st.sub hn) (by rw [upd_same]; exact Option.some_ne_none _)
      exact wp_ok (E := ExW S σ H G) wy _ _ G2 (s02.atD hn gn) ⟨n, _, _, rfl, rfl, upd_same, hn, gn, .cons r2 .nil⟩
    | _ => exact wy.elim⟩
/-- d[k] = v -/
def fDPut (i : Nat) (fv fk : Rho → Rs D) : Rho → Out := fun ρ => (fv ρ).out ρ fun v => match ρ[i]? with
  | some (.od es) => (fk ρ).out ρ fun k => match k with
    | .int n => if es.length < sizeLine then .nx (ρ.set i (.od (putD es n v))) else .stuck
    | _ => .stuck
  | _ => .stuck
theorem xs_dput {kd : Kd} {st : Stmt} (hp : ∀ tv tk, PE S.X a tv → PE S.X b tk → PS S.X st (sDPut (tVar i) tk tv)) (hv : XX S .e a fa) (hk : XX S .e b fb) : XS S kd st (fDPut i fa fb) :=
  let ⟨_, a1, a2⟩ := hv; let ⟨_, b1, b2⟩ := hk; ⟨_, hp _ _ a1 b1, fun H0 G0 σ H G ρ N q w => by
    refine a2 H0 G0 σ H G ρ _ q (Wp.imp (wp_out q w) (fun d wd v H1 G1 s1 r1 => ?_) fun _ z => z)
    have q1 := q.step s1
    split at wd
    · rename_i es e
      obtain ⟨ov, e1, p, kvs, rfl, h1, h2, h3, h4⟩ := q1.sl i _ e
      refine ⟨_, e1, ?_⟩
      refine b2 H0 G0 σ H1 G1 ρ _ q1 (Wp.imp (wp_out q1 wd) (fun k wk u H2 G2 s2 r2 => ?_) fun _ z => z)
      have q2 := q1.step s2
      split at wk
      · rename_i n
        cases Rp.int_inv r2
        split at wk
        · rename_i hl
          have g2 := s2.sep p h2 (by rw [h1]; exact Option.some_ne_none _)
          refine ⟨p, _, rfl, DPut.k (k := Sum.inl n) (s2.hh _ _ h1) (by rw [rpk_len h4]; exact hl), ?_⟩
          exact wk _ _ G2 (q2.write e rfl (fun _ _ z => nomatch z) (fun _ _ z => nomatch z) e1 ⟨p, _, rfl, upd_same, g2, h3, rpk_put n (Rp.mono s2.gg r1) (RpK.mono s2.gg h4)⟩)
        · exact wk.elim
      · exact wk.elim
    · exact wd.elim⟩
/-- one's own dict given back: frozen -/
def fRetM (i : Nat) : Rho → Out := fun ρ => match ρ[i]? with
  | some (.od es) => .ret (.dict es)
  | _ => .stuck
theorem tm_own (i : Nat) : ∀ H0 G0 σ H G ρ (Q : VK), Ok S H0 G0 σ H G ρ → Wp (fOd i ρ) (fun d => ∀ v H' G', Step H0 G0 H' G' → Rp G' v d → Q v H') (fun _ => False) → tFz (tVar i) σ H Q := fun H0 G0 σ H G ρ Q q w => by
  unfold fOd at w
  split at w
  · rename_i es e
    obtain ⟨ov, e1, p, kvs, rfl, h1, h2, h3, h4⟩ := q.sl i _ e
    refine ⟨_, e1, p, _, rfl, h1, trivial, fun od => wp_ok w _ _ (upd G p (.frz od (.dK kvs))) (q.st.frz h3 h2) (.dct upd_same (RpK.mono (same_new h2) h4))⟩
  · exact w.elim
theorem xs_retM {x : Str} {p : Pos} (hv : PE S.X (.Name x p) (tVar i)) : XS S .e (.Return (some (.Name x p)) pos) (fRetM i) :=
  ⟨_, ps_ret (pe_fz hv), fun H0 G0 σ H G ρ N q w => by
    refine tm_own i H0 G0 σ H G ρ _ q ?_
    unfold fRetM at w
    unfold fOd
    split at w
    · exact w
    · exact w.elim⟩
end
end Ct

/-! dicts walked, made by comprehensions; their keys sorted, the least of their values -/
namespace Ct
open PySem PySem.Spec PyProof.Rows L2
def putAll (es : List (D × D)) (ps : List (Int × D)) : List (D × D) := ps.foldl (fun a p => putD a p.1 p.2) es
def compD (tg : Tg) (c : Rho → Rs Bool) (ek e : Rho → Rs D) (ρ : Rho) : List D → Rs (List (Int × D))
  | [] => .ok []
  | d :: ds => match tg d ρ with
    | .ok ρ1 => match c ρ1 with
      | .ok true => match ek ρ1 with
        | .ok (.int n) => match e ρ1 with
          | .ok y => (compD tg c ek e ρ ds).bind fun r => .ok ((n, y) :: r)
          | _ => .stuck
        | _ => .stuck
      | .ok false => compD tg c ek e ρ ds
      | _ => .stuck
    | _ => .stuck
def fDComp (vs : List Nat) (f : Rho → Rs (List D)) (tg : Tg) (c : Rho → Rs Bool) (ek e : Rho → Rs D) : Rho → Rs D := fun ρ => (f ρ).bind fun ds => if ds.length ≤ sizeLine then (match compD tg c ek e (wipeR ρ vs) ds with
  | .ok r => .ok (.dict (putAll [] r))
  | _ => .stuck) else .stuck
section
variable {S : Sx} {X' : Cx} {k : Kd}
theorem tv_dcomp {wi : TI} {is vs : List Nat} {f : Rho → Rs (List D)} {tg : Tg} {c : Rho → Rs Bool} {e ek : Rho → Rs D} (hs : ∀ j ∈ is, j ∈ vs)
    (hi : ∀ H0 G0 σ H G ρ (R : It → Hp → Prop), Ok S H0 G0 σ H G ρ → Wp (f ρ) (fun ds => ∀ J H' G', Step H G H' G' → ItOk J G' ds → R J H') (ExW S σ H G) → wi σ H R) :
    TV S .m (tDc wi (uG S is tg) (uT S c) (uE S .e ek) (uE S .e e) vs) (fDComp vs f tg c ek e) := fun H0 G0 σ H G ρ Q q w => by
  refine hi H0 G0 σ H G ρ _ q (Wp.imp (Wp.bind w) (fun ds wd J H1 G1 s1 it => ?_) fun _ z => z)
  have qw := (q.step s1).wipe vs
  by_cases hl : ds.length ≤ sizeLine
  · rw [if_pos hl] at wd
    cases ec : compD tg c ek e (wipeR ρ vs) ds with
    | exc er => rw [ec] at wd; exact wd.elim
    | stuck => rw [ec] at wd; exact wd.elim
    | ok res =>
      rw [ec] at wd
      have wd := wp_ok wd
      intro Da hD
      have gD : G1 Da = none := Same.free s1.sub hD
      refine ⟨fun i m Hc => m = ds.length - i ∧ i ≤ ds.length ∧ ∃ Gc acc accD rest, Step H1 G1 Hc Gc ∧ Hc Da = some (.dK acc) ∧ Gc Da = none ∧ RpK Gc acc accD ∧ acc.length ≤ i ∧ compD tg c ek e (wipeR ρ vs) (ds.drop i) = .ok rest ∧ putAll accD rest = putAll [] res,
        ⟨ds.length, by simp, Nat.zero_le _, G1, [], [], res, Step.newO s1.sub hD, upd_same, gD, .nil, Nat.le_refl _, ec, rfl⟩, ?_⟩
      rintro i m Hc ⟨rfl, hle, Gc, acc, accD, rest, st, hA, gA, rA, lA, eR, eA⟩
      have sb := st.sub
      by_cases hlt : i < ds.length
      · obtain ⟨go, tn⟩ := (it i Hc Gc st.gg sb).2 ds[i] (List.getElem?_eq_getElem hlt)
        rw [List.drop_eq_getElem_cons hlt] at eR
        refine .inr ⟨go, fun H' => ∃ Gc acc accD rest, Step H1 G1 H' Gc ∧ H' Da = some (.dK acc) ∧ Gc Da = none ∧ RpK Gc acc accD ∧ acc.length ≤ i + 1 ∧ compD tg c ek e (wipeR ρ vs) (ds.drop (i + 1)) = .ok rest ∧ putAll accD rest = putAll [] res,
          fun H' z => ⟨ds.length - (i + 1), by omega, rfl, hlt, z⟩, fun x H' y => ?_⟩
        obtain ⟨G', s', r'⟩ := tn x H' y
        unfold compD at eR
        have q' := qw.step (st.trans s')
        refine ⟨H0, G0, G', wipeR ρ vs, ds[i], q', r', ?_⟩
        cases e1 : tg ds[i] (wipeR ρ vs) with
        | exc _ => rw [e1] at eR; cases eR
        | stuck => rw [e1] at eR; cases eR
        | ok ρ1 =>
          rw [e1] at eR
          intro σ' te
          refine ⟨wipe_same hs te.out te.len, ⟨H0, G0, G', ρ1, te.ok, ?_⟩⟩
          cases e2 : c ρ1 with
          | exc _ => simp only [e2] at eR; cases eR
          | stuck => simp only [e2] at eR; cases eR
          | ok b =>
            intro H2 G2 s2
            cases b with
            | false =>
              simp only [e2] at eR
              refine iteF ?_
              have s3 := s'.trans s2
              exact ⟨G2, acc, accD, rest, st.trans s3, s3.hh _ _ hA, s3.sep Da gA (by rw [hA]; exact Option.some_ne_none _), RpK.mono s3.gg rA, Nat.le_succ_of_le lA, eR, eA⟩
            | true =>
              simp only [e2] at eR
              refine iteT ⟨H0, G0, G2, ρ1, te.ok.step s2, ?_⟩
              cases e3 : ek ρ1 with
              | exc _ => simp only [e3] at eR; cases eR
              | stuck => simp only [e3] at eR; cases eR
              | ok y =>
                cases y with
                | int n =>
                  simp only [e3] at eR
                  intro v H4 G4 s4 r4
                  cases Rp.int_inv r4
                  have s24 := s2.trans s4
                  refine ⟨H0, G0, G4, ρ1, te.ok.step s24, ?_⟩
                  cases e4 : e ρ1 with
                  | exc _ => simp only [e4] at eR; cases eR
                  | stuck => simp only [e4] at eR; cases eR
                  | ok z =>
                    simp only [e4] at eR
                    intro u H5 G5 s5 r5
                    have s6 := s'.trans (s24.trans s5)
                    have st6 := st.trans s6
                    have g6 := s6.sep Da gA (by rw [hA]; exact Option.some_ne_none _)
                    refine ⟨acc, Sum.inl n, rfl, s6.hh _ _ hA, Nat.lt_of_le_of_lt lA (Nat.lt_of_lt_of_le hlt hl), ?_⟩
                    cases e5 : compD tg c ek e (wipeR ρ vs) (ds.drop (i + 1)) with
                    | exc _ => rw [e5] at eR; cases eR
                    | stuck => rw [e5] at eR; cases eR
                    | ok r7 =>
                      rw [e5] at eR
                      have eR : Rs.ok ((n, z) :: r7) = Rs.ok rest := eR
                      cases eR
                      exact ⟨G5, putK acc (Sum.inl n) u, putD accD n z, r7, st6.atD hD g6, upd_same, g6, rpk_put n r5 (RpK.mono s6.gg rA), Nat.le_trans (length_putK acc (Sum.inl n) u) (Nat.succ_le_succ lA), rfl, eA⟩
                | _ => simp only [e3] at eR; cases eR
      · have : i = ds.length := by omega
        subst this
        rw [List.drop_length] at eR
        have eR : Rs.ok ([] : List (Int × D)) = Rs.ok rest := eR
        cases eR
        have eA : accD = putAll [] res := eA
        subst eA
        exact .inl ⟨(it _ Hc Gc st.gg sb).1 (Nat.le_refl _), wd _ Hc Gc (s1.trans st) ⟨Da, acc, _, rfl, rfl, hA, Same.free s1.hh hD, gA, rA⟩⟩
  · rw [if_neg hl] at wd
    exact wd.elim
theorem xdcomp {ex tge iter : Expr} {is vs : List Nat} {f : Rho → Rs (List D)} {tg : Tg} {c : Rho → Rs Bool} {e ek : Rho → Rs D} (hs : ∀ j ∈ is, j ∈ vs)
    (hp : ∀ wi, PI S.X tge iter wi → PE S.X ex (tDc wi (uG S is tg) (uT S c) (uE S .e ek) (uE S .e e) vs)) (h1 : XI S tge iter f) : XX S .m ex (fDComp vs f tg c ek e) :=
  let ⟨_, a1, a2⟩ := h1; ⟨_, hp _ a1, tv_dcomp hs a2⟩
end

/-! ### walks -/
def dictOf (f : Rho → Rs D) (g : List (D × D) → List D) : Rho → Rs (List D) := fun ρ => (fD f ρ).bind fun d => match d with
  | .dict es => .ok (g es)
  | _ => .stuck
def iKeys' (f : Rho → Rs D) : Rho → Rs (List D) := dictOf f fun es => es.map (·.1)
def iVals' (f : Rho → Rs D) : Rho → Rs (List D) := dictOf f fun es => es.map (·.2)
def iItems' (f : Rho → Rs D) : Rho → Rs (List D) := dictOf f fun es => es.map fun p => .tuple [p.1, p.2]
theorem ito_keys {G1 : Hp} {a : Addr} {o : Obj} {kvs : List (Key × V)} {es : List (D × D)} (h : G1 a = some (.frz o (.dK kvs))) (hl : RpK G1 kvs es) : ItOk (Itk a o kvs) G1 (es.map (·.1)) := fun i H G s1 s2 => by
  have hH : H a = some (.frz o (.dK kvs)) := s2 _ _ (s1 _ _ h)
  refine ⟨fun hi => ⟨hH, by rw [rpk_len hl]; rw [List.length_map] at hi; exact hi⟩, fun d hd => ?_⟩
  rw [List.getElem?_map] at hd
  obtain ⟨p, e1, e2⟩ := Option.map_eq_some_iff.mp hd
  obtain ⟨n, v, e3, e4, r⟩ := rpk_at hl e1
  refine ⟨⟨hH, (List.getElem?_eq_some_iff.mp e3).1⟩, fun x H' y => ?_⟩
  obtain ⟨rfl, k, u, y1, y2⟩ := y
  rw [e3] at y1
  cases y1
  subst e2
  rw [e4, y2]
  exact ⟨G, Step.refl s2, .int n⟩
theorem ito_vals {G1 : Hp} {a : Addr} {o : Obj} {kvs : List (Key × V)} {es : List (D × D)} (h : G1 a = some (.frz o (.dK kvs))) (hl : RpK G1 kvs es) : ItOk (Itd a o kvs) G1 (es.map (·.2)) := fun i H G s1 s2 => by
  have hH : H a = some (.frz o (.dK kvs)) := s2 _ _ (s1 _ _ h)
  refine ⟨fun hi => ⟨hH, by rw [rpk_len hl]; rw [List.length_map] at hi; exact hi⟩, fun d hd => ?_⟩
  rw [List.getElem?_map] at hd
  obtain ⟨p, e1, e2⟩ := Option.map_eq_some_iff.mp hd
  obtain ⟨n, v, e3, e4, r⟩ := rpk_at hl e1
  refine ⟨⟨hH, (List.getElem?_eq_some_iff.mp e3).1⟩, fun x H' y => ?_⟩
  obtain ⟨rfl, k, y1⟩ := y
  rw [e3] at y1
  cases y1
  subst e2
  exact ⟨G, Step.refl s2, r.mono s1⟩
theorem ito_items {G1 : Hp} {a : Addr} {o : Obj} {kvs : List (Key × V)} {es : List (D × D)} (h : G1 a = some (.frz o (.dK kvs))) (hl : RpK G1 kvs es) : ItOk (Iti a o kvs) G1 (es.map fun p => .tuple [p.1, p.2]) := fun i H G s1 s2 => by
  have hH : H a = some (.frz o (.dK kvs)) := s2 _ _ (s1 _ _ h)
  refine ⟨fun hi => ⟨hH, by rw [rpk_len hl]; rw [List.length_map] at hi; exact hi⟩, fun d hd => ?_⟩
  rw [List.getElem?_map] at hd
  obtain ⟨p, e1, e2⟩ := Option.map_eq_some_iff.mp hd
  obtain ⟨n, v, e3, e4, r⟩ := rpk_at hl e1
  refine ⟨⟨hH, (List.getElem?_eq_some_iff.mp e3).1⟩, fun x H' y => ?_⟩
  obtain ⟨T, k, u, y1, y2, hT, y4⟩ := y
  rw [e3] at y1
  cases y1
  subst e2
  rw [e4, y2, y4]
  exact ⟨_, Step.new s2 hT, .tup upd_same (.cons (.int n) (.cons (r.mono (s1.trans (same_new (Same.free s2 hT)))) .nil))⟩
section
variable {S : Sx} {tg l : Expr} {f : Rho → Rs D} {apos cpos : Pos}
theorem wp_dict {f : Rho → Rs D} {g : List (D × D) → List D} {ρ : Rho} {P : List D → Prop} {E : Er → Prop} (w : Wp (dictOf f g ρ) P E) : Wp (f ρ) (fun d => ∃ es, d = .dict es ∧ es.all (fun p => isInt1 p.1) = true ∧ P (g es)) E := by
  unfold dictOf at w
  refine Wp.imp (Wp.bind (Wp.bind w)) (fun d wd => ?_) fun _ z => z
  split at wd
  · rename_i es
    split at wd
    · rename_i h
      exact ⟨es, rfl, h, wd⟩
    · exact wd.elim
  · exact wd.elim
theorem xi_keys (h : XX S .e l f) : XI S tg l (iKeys' f) :=
  let ⟨_, a1, a2⟩ := h; ⟨_, pi_keys a1, fun H0 G0 σ H G ρ R q w => by
    refine a2 H0 G0 σ H G ρ _ q (Wp.imp (wp_dict w) (fun d wd v H1 G1 s1 r1 => ?_) fun _ z => z)
    obtain ⟨es, rfl, hk, wd⟩ := wd
    obtain ⟨a, o, kvs, rfl, h1, h2⟩ := Rp.dct_inv r1 hk
    exact ⟨a, o, rfl, .inl ⟨kvs, s1.sub _ _ h1, wd _ _ _ s1 (ito_keys h1 h2)⟩⟩⟩
theorem xi_keysM (h : XX S .e l f) (hbase : attributeBase l "keys" S.X.env (eval l S.X.env) = eval l S.X.env := by rfl) (hline : (apos.endLine == cpos.line) = true := by rfl) : XI S tg (.Call (.Attribute l "keys" apos) [] [] cpos) (iKeys' f) :=
  let ⟨_, a1, a2⟩ := h; ⟨_, pi_keysM a1 hbase hline, fun H0 G0 σ H G ρ R q w => by
    refine a2 H0 G0 σ H G ρ _ q (Wp.imp (wp_dict w) (fun d wd v H1 G1 s1 r1 => ?_) fun _ z => z)
    obtain ⟨es, rfl, hk, wd⟩ := wd
    obtain ⟨a, o, kvs, rfl, h1, h2⟩ := Rp.dct_inv r1 hk
    exact ⟨a, o, kvs, rfl, s1.sub _ _ h1, wd _ _ _ s1 (ito_keys h1 h2)⟩⟩
theorem xi_vals (h : XX S .e l f) (hbase : attributeBase l "values" S.X.env (eval l S.X.env) = eval l S.X.env := by rfl) (hline : (apos.endLine == cpos.line) = true := by rfl) : XI S tg (.Call (.Attribute l "values" apos) [] [] cpos) (iVals' f) :=
  let ⟨_, a1, a2⟩ := h; ⟨_, pi_values a1 hbase hline, fun H0 G0 σ H G ρ R q w => by
    refine a2 H0 G0 σ H G ρ _ q (Wp.imp (wp_dict w) (fun d wd v H1 G1 s1 r1 => ?_) fun _ z => z)
    obtain ⟨es, rfl, hk, wd⟩ := wd
    obtain ⟨a, o, kvs, rfl, h1, h2⟩ := Rp.dct_inv r1 hk
    exact ⟨a, o, kvs, rfl, s1.sub _ _ h1, wd _ _ _ s1 (ito_vals h1 h2)⟩⟩
theorem xi_items {elts : List Expr} {kk : Nat} {tpos : Pos} (h : XX S .e l f) (hbase : attributeBase l "items" S.X.env (eval l S.X.env) = eval l S.X.env := by rfl) (hline : (apos.endLine == cpos.line) = true := by rfl) : XI S (.Tuple elts kk tpos) (.Call (.Attribute l "items" apos) [] [] cpos) (iItems' f) :=
  let ⟨_, a1, a2⟩ := h; ⟨_, pi_items a1 hbase hline, fun H0 G0 σ H G ρ R q w => by
    refine a2 H0 G0 σ H G ρ _ q (Wp.imp (wp_dict w) (fun d wd v H1 G1 s1 r1 => ?_) fun _ z => z)
    obtain ⟨es, rfl, hk, wd⟩ := wd
    obtain ⟨a, o, kvs, rfl, h1, h2⟩ := Rp.dct_inv r1 hk
    exact ⟨a, o, kvs, rfl, s1.sub _ _ h1, wd _ _ _ s1 (ito_items h1 h2)⟩⟩
end
end Ct

/-! sorted(d.keys()), min(d.values()) of lists -/
namespace Ct
open PySem PySem.Spec PyProof.Rows L2

/-- sorted(d.keys()) of a dict whose keys are ints -/
def tSortKeys (td : TE) : TE := fun σ H Q => td σ H fun x H1 => ∃ a kvs, ∃ ks : List Int, x = V.ref a ∧ Rd H1 a (.dK kvs) ∧ kvs.map (·.1) = ks.map Sum.inl ∧ ∀ (ys : List Int) (p : Addr), ys.Perm ks → ys.Pairwise (· ≤ ·) → H1 p = none → Q (.ref p) (upd H1 p (.lst (ys.map V.int)))
theorem pe_sortKeys {X : Cx} {o : Expr} {p pos apos mpos : Pos} {td : TE} (hc : X.calm = true) (hg : Gl X "sorted") (hm : X.mg "sorted" = none) (hd : PE X o td) (hb : attributeBase o "keys" X.env (eval o X.env) = eval o X.env) (hli : (apos.endLine == mpos.line) = true)
    (hs : starEach [Expr.Call (.Attribute o "keys" apos) [] [] mpos] X.env = [(false, eval (Expr.Call (.Attribute o "keys" apos) [] [] mpos) X.env)]) : PE X (.Call (.Name "sorted" p) [.Call (.Attribute o "keys" apos) [] [] mpos] [] pos) (tSortKeys td) := by
  refine ⟨fun pins st σ H Q I hw => ?_⟩
  refine wpAny_Call_Name_kw (ld_blt I hg hm (u := .builtin "sorted") (by first | rfl | decide +kernel) ?_ (by first | decide +kernel | decide) (by first | decide +kernel | decide))
  rw [hs]
  refine PySem.callWith_builtin1 (wpAny_Call_method0_late hb hli (thn (hd.run pins st σ H _ I hw) fun v s1 ⟨x, H1, I1, r1, a, kvs, ks, ex, ha, hks, q⟩ => ?_))
  subst ex
  obtain rfl : v = Value.ref a := r1
  obtain ⟨z, hsys, vs, rel, dof⟩ := dk_rd I1.hok ha
  obtain ⟨ep, dat⟩ := dof.dictAt
  obtain ⟨ob, es, ho, ex, hdat, hko, hpr, hnd⟩ := id dat
  refine ⟨"dict", "dict.keys", F.plainAttrs_dict, F.slot_dict_keys, F.type_dict_keys, ⟨ob, ho, ex.1⟩, fun b e => ?_, Calls.callWith_builtin rfl (PySem.evalArgs_none ?_)⟩
  · cases e
    exact ⟨ob, ho, ex.2.1⟩
  refine call_meetsIn F.slot_dict_keys ⟨ob, ho, ex.1⟩ F.entry_dict_keys (F.args_dict_keys_1 _) (PySem.W.kdl_meets_keys (mixKind X.prog X.w) a hsys) ⟨⟨vs, dof⟩, ?_⟩
  generalize hv : ({ cls := .type "dict_keys", data := .fields #[.ref a] } : Obj) = vo
  have kk : ∀ b u, s1.heap.get? b = some u → (s1.heap.push vo).get? b = some u := fun b u e => Heap.get?_push_of_some _ e
  have datv : (s1.heap.push vo).DictAt (mixKind X.prog X.w) a vs ep := dat.keep kk
  have view : PySem.W.KdlKeysView (s1.heap.push vo) s1.heap.objs.size a := ⟨vo, Heap.get?_push_size _ (by rw [← hv]; rfl), by rw [← hv], by rw [← hv]⟩
  have hkeys : vs.map (·.1) = ks.map Sum.inl := (KV.keys rel).symm.trans hks
  have hlk : vs.length = ks.length := by
    have e := congrArg List.length hkeys
    rwa [List.length_map, List.length_map] at e
  have h16 : vs.length ≤ sizeLine := by rw [← KV.length rel]; exact z
  refine Calls.call_function_entry PyProof.Rows.kind_sorted PyProof.Rows.plain_sorted PyProof.Rows.entry_sorted (PyProof.Rows.args_sorted1 _) ?_
  unfold Builtin.«sorted»
  refine wpAny_bind (m := checkCount "sorted" 1 1 _) (wpAny_pure ?_)
  refine wpAny_bind (PySem.W.kdu_collect (A := X.A.in1) (PySem.W.kdl_keys (knd := mixKind X.prog X.w) (d := a) (kvs := vs) (ep := ep)) (I1.ok.hd hc) ⟨view, datv⟩ h16 fun hp tk acc hk hacc => ?_)
  have hal : acc.toList.length = ks.length := by rw [Array.length_toList, hacc.1, hlk]
  have hS : IntsAre acc.toList ks := ints_each hal fun j w e => by
    obtain ⟨k, y, e1, e2⟩ := hacc.2 j w (by rw [← Array.getElem?_toList]; exact e)
    have e3 : (vs.map (·.1))[j]? = some k := by rw [List.getElem?_map, e1]; rfl
    rw [hkeys, List.getElem?_map] at e3
    obtain ⟨n, e4, e5⟩ := Option.map_eq_some_iff.mp e3
    subst e5
    rcases keyIs_shape (show keyIs (Sum.inl n) w = true from e2) with ⟨i, t, ek, ev⟩ | ⟨i, t, ek, ev⟩
    · cases ek
      exact ⟨n, t, e4, ev⟩
    · cases ek
  have I2 : Inv X pins σ H1 { s1 with heap := hp, toks := tk } := I1.kept fun b u e => hk b u (kk b u e)
  have hz : acc.toList.length ≤ sizeLine := by rw [hal, ← hlk]; exact h16
  refine wpAny_bind (wpAny_newList ?_ hz)
  have hoL : (hp.push (seqObj "list" acc.toList.toArray 0)).get? hp.objs.size = some (seqObj "list" acc.toList.toArray 0) := Heap.get?_push_size _ rfl
  show wpAny _ _ _ _ _ { s1 with heap := hp.push (seqObj "list" acc.toList.toArray 0), toks := tk }
  refine wpAny_bind (wpAny_holding (wpAny_call_entry PyProof.Rows.slot_list_sort ⟨_, hoL, rfl⟩ PyProof.Rows.entry_list_sort
    (SrtO.list_sort_ord (s := { s1 with heap := hp.push (seqObj "list" acc.toList.toArray 0), toks := tk }) SrtO.swo_int hoL hz (fun h2 => SrtO.ints_sortable hS h2) fun out g1 g2 => ⟨_, rfl, ?_⟩) (PyProof.Rows.args_list_sort _)))
  obtain ⟨k1, k2, k3⟩ := SrtO.ints_out hS g1 g2
  obtain ⟨e', he'⟩ := PyProof.Rows.sortedHeap_at (vs := acc.toList) (out := out.toArray) hoL
  have hlen : ((out.map SrtO.iv).map V.int).length ≤ sizeLine := by
    rw [List.length_map, k2.length_eq, ← hal]
    exact hz
  refine wpAny_pure ⟨_, rfl, .ref hp.objs.size, upd H1 hp.objs.size (.lst ((out.map SrtO.iv).map V.int)), I2.laid (t' := tk) (fun b u e => ?_) (Nat.le_refl _) ⟨hlen, out, e', vals_of_ints k1, he'⟩, rfl, q _ _ k2 k3 (I2.hok.fresh (Nat.le_refl _))⟩
  have hb2 : b < hp.objs.size := Heap.lt_size e
  rw [PyProof.Rows.sortedHeap_old (Nat.ne_of_lt hb2) (by rw [size_push']; exact Nat.lt_succ_of_lt hb2)]
  exact Heap.get?_push_of_some _ e
/-- min(d.values()), the values lists of ints -/
def tMinLists (K : PySem.W.Frag) (td : TE) : TE := fun σ H Q => td σ H fun x H1 => ∃ a kvs, ∃ ps : List Addr, ∃ ls : List (List Int), x = V.ref a ∧ Rd H1 a (.dK kvs) ∧ kvs.map (·.2) = ps.map V.ref ∧ ps.length = ls.length ∧ ls ≠ [] ∧
  (∀ (i : Nat) (p : Addr) (ns : List Int), ps[i]? = some p → ls[i]? = some ns → SqL K H1 p (ns.map V.int)) ∧ ∀ (j : Nat) (p : Addr), ps[j]? = some p → ls[j]? = some (minLs ls) → Q (.ref p) H1
theorem pe_minLists {X : Cx} {o : Expr} {p pos apos mpos : Pos} {td : TE} (hu : X.A.units + 2 < cLine) (hc : X.calm = true) (hg : Gl X "min") (hm : X.mg "min" = none) (hd : PE X o td) (hb : attributeBase o "values" X.env (eval o X.env) = eval o X.env) (hli : (apos.endLine == mpos.line) = true)
    (hs : starEach [Expr.Call (.Attribute o "values" apos) [] [] mpos] X.env = [(false, eval (Expr.Call (.Attribute o "values" apos) [] [] mpos) X.env)]) : PE X (.Call (.Name "min" p) [.Call (.Attribute o "values" apos) [] [] mpos] [] pos) (tMinLists X.K td) := by
  refine ⟨fun pins st σ H Q I hw => ?_⟩
  refine wpAny_Call_Name_kw (ld_blt I hg hm (u := .builtin "min") (by first | rfl | decide +kernel) ?_ (by first | decide +kernel | decide) (by first | decide +kernel | decide))
  rw [hs]
  refine PySem.callWith_builtin1 (wpAny_Call_method0_late hb hli (thn (hd.run pins st σ H _ I hw) fun v s1 ⟨x, H1, I1, r1, a, kvs, ps, ls, ex, ha, hks, hl, hne, hp, q⟩ => ?_))
  subst ex
  obtain rfl : v = Value.ref a := r1
  obtain ⟨z, hsys, vs, rel, dof⟩ := dk_rd I1.hok ha
  obtain ⟨ep, dat⟩ := dof.dictAt
  obtain ⟨ob, es, ho, ex, hdat, hko, hpr, hnd⟩ := id dat
  refine ⟨"dict", "dict.values", F.plainAttrs_dict, F.slot_dict_values, F.type_dict_values, ⟨ob, ho, ex.1⟩, fun b e => ?_, Calls.callWith_builtin rfl (PySem.evalArgs_none ?_)⟩
  · cases e
    exact ⟨ob, ho, ex.2.1⟩
  refine call_meetsIn F.slot_dict_values ⟨ob, ho, ex.1⟩ F.entry_dict_values (F.args_dict_values_1 _) (meets_dict_values (mixKind X.prog X.w) a hsys) ⟨⟨vs, dof⟩, ?_⟩
  generalize hv : ({ cls := .type "dict_values", data := .fields #[.ref a] } : Obj) = vo
  have kk : ∀ b u, s1.heap.get? b = some u → (s1.heap.push vo).get? b = some u := fun b u e => Heap.get?_push_of_some _ e
  have datv : (s1.heap.push vo).DictAt (mixKind X.prog X.w) a vs ep := dat.keep kk
  have view : (s1.heap.push vo).IsValuesView s1.heap.objs.size a := ⟨vo, Heap.get?_push_size _ (by rw [← hv]; rfl), by rw [← hv], by rw [← hv]⟩
  have I2 : Inv X pins σ H1 { s1 with heap := s1.heap.push vo } := I1.kept (t' := s1.toks) kk
  have hlv : vs.length = ls.length := by
    have e := congrArg List.length hks
    rw [List.length_map, List.length_map] at e
    rw [← KV.length rel, e, hl]
  have lta : a < s1.heap.objs.size := Heap.lt_size ho
  have szv : (s1.heap.push vo).objs.size = s1.heap.objs.size + 1 := Heap.size_push _ _
  obtain ⟨b1, b2⟩ := minLs_best hne
  refine call_min_walkH (wpAny_pyIter_values (v := s1.heap.objs.size) (d := a) view datv ?_)
  refine ⟨_, _, _, _, _, _, _, (s1.heap.push vo), fun i j => _root_.HT.lexLt (ls.getD i []) (ls.getD j []), rfl, (Walks.dictValues (knd := mixKind X.prog X.w) (A := X.A.in1) (I1.ok.hd hc) (s1.heap.push vo).objs.size a (by rw [szv]; exact Nat.ne_of_lt (Nat.lt_succ_of_lt lta)) vs ep).toS,
    ⟨⟨_, Heap.get?_push_size _ rfl, rfl, rfl⟩, datv.keep fun b u e => Heap.get?_push_of_some _ e⟩, fun b hb => ?_, ?_, fun b u e hm => ?_, fun b u e => Heap.get?_push_of_some _ e, ?_, fun w s' hP m => ?_⟩
  · show b < ((s1.heap.push vo).push _).objs.size
    rw [Heap.size_push, szv]
    rcases List.mem_cons.mp hb with e | hb
    · rw [e, szv]; exact Nat.lt_succ_self _
    · rw [List.mem_singleton.mp hb]; exact Nat.lt_succ_of_lt (Nat.lt_succ_of_lt lta)
  · rw [hlv]
    exact List.length_pos_iff.mpr hne
  · have := Heap.lt_size e
    rw [List.mem_singleton.mp hm] at this
    exact Nat.lt_irrefl _ this
  · refine cmp_lists I2 (A := X.A.in1) (by show X.A.units + 1 < cLine; omega) hp hl fun i w hw => ?_
    obtain ⟨k, e1⟩ := hw
    obtain ⟨y, h1, h2⟩ := KV.at' rel e1
    have e2 : (kvs.map (·.2))[i]? = some y := by rw [List.getElem?_map, h1]; rfl
    rw [hks, List.getElem?_map] at e2
    obtain ⟨r, e3, e4⟩ := Option.map_eq_some_iff.mp e2
    subst e4
    exact ⟨r, e3, h2⟩
  · obtain ⟨k, e1⟩ := hP
    rw [hlv] at e1
    obtain ⟨y, h1, h2⟩ := KV.at' rel e1
    have e2 : (kvs.map (·.2))[argBest (fun i j => _root_.HT.lexLt (ls.getD i []) (ls.getD j [])) (ls.length - 1)]? = some y := by rw [List.getElem?_map, h1]; rfl
    rw [hks, List.getElem?_map] at e2
    obtain ⟨r, e3, e4⟩ := Option.map_eq_some_iff.mp e2
    subst e4
    obtain ⟨hp9, g9, d9, tk9, os9⟩ := s'
    have eg : g9 = s1.gens := m.gens
    have ed : d9 = s1.drawn := m.drawn
    have eo : os9 = s1.os := m.os
    subst eg ed eo
    refine ⟨.ref r, H1, I1.kept (t' := tk9) fun b u e => ?_, h2, q _ r e3 b1⟩
    refine m.heap b u (fun hmem => ?_) (Heap.get?_push_of_some _ (kk b u e))
    have := Heap.lt_size (kk b u e)
    rw [List.mem_singleton.mp hmem] at this
    exact Nat.lt_irrefl _ this
end Ct

namespace Ct
open PySem PySem.Spec PyProof.Rows L2

/-- keys and values -/
def keysI : List (D × D) → Option (List Int)
  | [] => some []
  | (.int n, _) :: r => (keysI r).map (n :: ·)
  | _ :: _ => none
theorem rpk_keys {G : Hp} : ∀ {kvs : List (Key × V)} {es : List (D × D)}, RpK G kvs es → ∃ ks, keysI es = some ks ∧ kvs.map (·.1) = ks.map Sum.inl
  | _, _, .nil => ⟨[], rfl, rfl⟩
  | _, _, .cons (n := n) (es := es) _ r => by
    obtain ⟨ks, e1, e2⟩ := rpk_keys r
    refine ⟨n :: ks, ?_, by rw [List.map_cons, List.map_cons, e2]⟩
    show (keysI es).map (n :: ·) = _
    rw [e1]
    rfl
theorem rpk_vals {G : Hp} : ∀ {kvs : List (Key × V)} {es : List (D × D)}, RpK G kvs es → RpL G (kvs.map (·.2)) (es.map (·.2))
  | _, _, .nil => .nil
  | _, _, .cons h r => .cons h (rpk_vals r)
def fSortK (f : Rho → Rs D) : Rho → Rs D := fun ρ => (f ρ).bind fun d => match d with
  | .dict es => match keysI es with
    | some ks => .ok (.list ((sortI ks).map PyData.int))
    | none => .stuck
  | _ => .stuck
def fMinV (f : Rho → Rs D) : Rho → Rs D := fun ρ => (f ρ).bind fun d => match d with
  | .dict es => match llD (es.map (·.2)) with
    | some (n :: ls) => .ok (.list ((minLs (n :: ls)).map PyData.int))
    | _ => .stuck
  | _ => .stuck
section
variable {S : Sx} {o : Expr} {f : Rho → Rs D} {p pos apos mpos : Pos}
theorem xsortK (hc : S.X.calm = true) (hm : S.X.mg "sorted" = none) (h : XX S .d o f) (hg : Gl S.X "sorted" := by rfl) (hb : attributeBase o "keys" S.X.env (eval o S.X.env) = eval o S.X.env := by rfl) (hli : (apos.endLine == mpos.line) = true := by rfl)
    (hs : starEach [Expr.Call (.Attribute o "keys" apos) [] [] mpos] S.X.env = [(false, eval (Expr.Call (.Attribute o "keys" apos) [] [] mpos) S.X.env)] := by rfl) : XX S .o (.Call (.Name "sorted" p) [.Call (.Attribute o "keys" apos) [] [] mpos] [] pos) (fSortK f) :=
  let ⟨_, a1, a2⟩ := h; ⟨_, pe_sortKeys hc hg hm a1 hb hli hs, fun H0 G0 σ H G ρ Q q w => by
    refine a2 H0 G0 σ H G ρ _ q (Wp.imp w.bind (fun d wd v H1 G1 s1 r1 => ?_) fun _ z => z)
    obtain ⟨a, kvs, es, rfl, rfl, hr, rk⟩ := r1
    obtain ⟨ks, e1, e2⟩ := rpk_keys rk
    have wd : Wp (match keysI es with
      | some ks => Rs.ok (PyData.list ((sortI ks).map PyData.int))
      | none => .stuck) _ _ := wd
    rw [e1] at wd
    refine ⟨a, kvs, ks, rfl, hr, e2, fun ys n hp hw hn => ?_⟩
    rw [sortI_eq hp hw]
    exact wp_ok wd _ _ G1 (s1.trans (Step.newO s1.sub hn)) ⟨n, _, _, rfl, rfl, upd_same, Same.free s1.hh hn, Same.free s1.sub hn, RpL.of_ints _⟩⟩
theorem xminV (hu : S.X.A.units + 64 < cLine) (hc : S.X.calm = true) (hm : S.X.mg "min" = none) (h : XX S .d o f) (hg : Gl S.X "min" := by rfl) (hb : attributeBase o "values" S.X.env (eval o S.X.env) = eval o S.X.env := by rfl) (hli : (apos.endLine == mpos.line) = true := by rfl)
    (hs : starEach [Expr.Call (.Attribute o "values" apos) [] [] mpos] S.X.env = [(false, eval (Expr.Call (.Attribute o "values" apos) [] [] mpos) S.X.env)] := by rfl) : XX S .e (.Call (.Name "min" p) [.Call (.Attribute o "values" apos) [] [] mpos] [] pos) (fMinV f) :=
  let ⟨_, a1, a2⟩ := h; ⟨_, pe_minLists (by omega) hc hg hm a1 hb hli hs, fun H0 G0 σ H G ρ Q q w => by
    refine a2 H0 G0 σ H G ρ _ q (Wp.imp w.bind (fun d wd v H1 G1 s1 r1 => ?_) fun _ z => z)
    obtain ⟨a, kvs, es, rfl, rfl, hr, rk⟩ := r1
    have wd : Wp (match llD (es.map (·.2)) with
      | some (n :: ls) => Rs.ok (PyData.list ((minLs (n :: ls)).map PyData.int))
      | _ => .stuck) _ _ := wd
    split at wd
    · rename_i n ls e
      have rv := rpk_vals rk
      rw [llD_eq e] at rv
      obtain ⟨ps, e1, e2, e3⟩ := RpL.lists (ls := n :: ls) rv
      refine ⟨a, kvs, ps, n :: ls, rfl, hr, e1, e2, List.cons_ne_nil _ _, fun i q ns hq hn => .of (s1.sub _ _ (e3 i q ns hq hn).1), fun j q hq hn => ?_⟩
      exact wp_ok wd _ H1 G1 s1 (e3 j q _ hq hn).2
    · exact wd.elim⟩
end
end Ct

namespace Ct
open PySem PySem.Spec PyProof.Rows L2
/-- xs[k], k not below 0, by values -/
def rGetN : V → V → Hp → VK → Prop := fun o i H Q => ∃ p xs n v, o = .ref p ∧ i = .int n ∧ 0 ≤ n ∧ H p = some (.lst xs) ∧ xs[n.toNat]? = some v ∧ Q v H
theorem get_listN {X : Cx} : PGet X rGetN := by
  intro pins s σ H o i ov iv Q I ro ri h
  obtain ⟨p, xs, n, v, rfl, rfl, h0, hp, hv, q⟩ := h
  cases ro
  obtain ⟨t, rfl⟩ := ri
  obtain ⟨its, m, r, ho, hz⟩ := I.lst hp
  obtain ⟨w, ew, rw'⟩ := r.get hv
  have hlt : n.toNat < xs.length := (List.getElem?_eq_some_iff.mp hv).1
  have hs : (sizeLine : Int) = 16777216 := by rw [sizeLine_eq]; rfl
  refine wpAny_getItem_list (x := w) ⟨_, ho, rfl, m, rfl⟩ h0 (by omega) (by rw [List.getElem?_toArray]; exact ew) ⟨v, H, I, rw', q⟩
/-- x[k] += e (ints) -/
def fAugS (i : Nat) (o : Int → Int → Int) (fk f : Rho → Rs D) : Rho → Out := fun ρ => match ρ[i]? with
  | some (.ow ds) => (fk ρ).out ρ fun k => match k with
    | .int n => match ds[n.toNat]? with
      | some (.int x) => if 0 ≤ n ∧ ixN ds.length n = some n.toNat then (f ρ).out ρ fun d => match d with
        | .int y => .nx (ρ.set i (.ow (ds.set n.toNat (.int (o x y)))))
        | _ => .stuck
        else .stuck
      | _ => .stuck
    | _ => .stuck
  | _ => .stuck
section
variable {S : Sx} {kd : Kd} {st : Stmt} {ek e : Expr} {fk f : Rho → Rs D} {i : Nat}
theorem xs_augS {o : Int → Int → Int} (hp : ∀ tk te, PE S.X ek tk → PE S.X e te → PS S.X st (tAugS (tVar i) tk te rGetN (ipI o) rSetL)) (hk : XX S .e ek fk) (h : XX S .e e f) : XS S kd st (fAugS i o fk f) :=
  let ⟨_, a1, a2⟩ := hk; let ⟨_, b1, b2⟩ := h; ⟨_, hp _ _ a1 b1, fun H0 G0 σ H G ρ N q w => by
    unfold fAugS at w
    split at w
    · rename_i ds eo
      obtain ⟨ov, e1, p, vs, rfl, h1, h2, h3, h4⟩ := q.sl i _ eo
      refine ⟨_, e1, ?_⟩
      refine a2 H0 G0 σ H G ρ _ q (Wp.imp (wp_out q w) (fun k wk u H1 G1 s1 r1 => ?_) fun _ z => z)
      have q1 := q.step s1
      split at wk
      · rename_i n
        cases Rp.int_inv r1
        split at wk
        · rename_i x ex
          split at wk
          · rename_i hn
            obtain ⟨v, ev, rv⟩ := h4.get ex
            cases Rp.int_inv rv
            refine ⟨p, vs, n, _, rfl, rfl, hn.1, s1.hh _ _ h1, ev, ?_⟩
            refine b2 H0 G0 σ H1 G1 ρ _ q1 (Wp.imp (wp_out q1 wk) (fun d wd u2 H2 G2 s2 r2 => ?_) fun _ z => z)
            split at wd
            · rename_i y
              cases Rp.int_inv r2
              have s12 := s1.trans s2
              have g2 := s12.sep p h2 (by rw [h1]; exact Option.some_ne_none _)
              refine ⟨x, y, rfl, rfl, p, vs, n, n.toNat, rfl, rfl, s12.hh _ _ h1, by rw [h4.length]; exact hn.2, ?_⟩
              exact wd _ _ G2 ((q.step s12).write eo rfl (fun _ _ z => nomatch z) (fun _ _ z => nomatch z) e1 ⟨p, _, rfl, upd_same, g2, h3, (h4.mono s12.gg).set n.toNat (.int _)⟩)
            · exact wd.elim
          · exact wk.elim
        · exact wk.elim
      · exact wk.elim
    · exact w.elim⟩
theorem xs_dputX {a b : Expr} {fa fb : Rho → Rs D} {x : Str} {p pos pos' : Pos} (hu : S.X.A.units + 64 < cLine) (ho : PE S.X (.Name x p) (tVar i)) (hv : XX S .e a fa) (hk : XX S .e b fb) (hs : swapsWith a (some (.Subscript (.Name x p) b pos')) pos.line S.X.env = pure false := by rfl) :
    XS S kd (.Assign [.Subscript (.Name x p) b pos'] a pos) (fDPut i fa fb) := xs_dput (i := i) (fun _ _ h1 h2 => ps_dput (by omega) ho h2 h1 hs) hv hk
end
/-! ### borrowed arguments and a keyword -/
def fCallKB (f : List D → Rs D) (g : Rho → Rs (List D)) (h : Rho → Rs D) : Rho → Rs D := fun ρ => (g ρ).bind fun ds => (h ρ).bind fun d => noE (f (ds ++ [d]))
def fCallDB (f : List D → Rs D) (d : D) (g : Rho → Rs (List D)) : Rho → Rs D := fun ρ => (g ρ).bind fun ds => noE (f (ds ++ [d]))
section
variable {S : Sx} {k : Nat} {a : Addr} {fd : FuncData} {ps : List Str} {kd : Kd} {f : List D → Rs D} {x y : Str} {p pos kpos : Pos} {e e2 : Expr} {es : List Expr} {g : Rho → Rs (List D)} {h : Rho → Rs D}
theorem xcallKB (C : Df S.X.prog S.X.w S.X.K S.X.mg S.X.base S.ca S.cf k x a fd ps kd f) (hb : BindK S.X.K fd ps y) (hr : Room k S.X.A) (tk : Takes S.X S.W) (ha : XA S .b (e :: es) g) (h2 : XX S .e e2 h) (hk : kdB kd := by first | exact trivial | rfl) (hg : Gl S.X x := by rfl)
    (hdb : (x == ("__debug__" : Str)) = false := by decide) (he : starEach (e :: es) S.X.env = (false, eval e S.X.env) :: starEach es S.X.env := by rfl)
    (hall : (backToKw pos (keywordEach [⟨some y, e2, kpos⟩] S.X.env)).all (·.1.isSome) = true := by rfl) (hks : (backToKw pos (keywordEach [⟨some y, e2, kpos⟩] S.X.env)).filterMap (·.1) = [y] := by rfl)
    (hpl : ((backTo pos (starEach (e :: es) S.X.env)).any (·.1) || (backToKw pos (keywordEach [⟨some y, e2, kpos⟩] S.X.env)).any (·.1.isNone)) = false := by rfl) :
    XX S .b (.Call (.Name x p) (e :: es) [⟨some y, e2, kpos⟩] pos) (fCallKB f g h) :=
  let ⟨t, a1, a2⟩ := ha; let ⟨u, b1, b2⟩ := h2
  ⟨_, pe_ck (E := WE S.W) C.ok hr hg C.gm C.kp hb (fun σ => passAt tk σ) a1 b1 hdb he hall hks hpl, fun H0 G0 σ H G ρ Q q w => by
    refine a2 H0 G0 σ H G ρ _ q (Wp.imp (Wp.bind w) (fun ds wd vs H1 G1 s1 r1 => ?_) fun _ z => z)
    refine b2 H0 G0 σ H1 G1 ρ _ (q.step s1) (Wp.imp (Wp.bind wd) (fun d wd2 v H2 G2 s2 r2 => ?_) fun er z => z.step s1)
    have r1 : RpL H1 vs ds := r1
    have r3 : RpL H2 (vs ++ [v]) (ds ++ [d]) := RpL.append (RpL.mono s2.hh r1) (.cons (Rp.mono s2.sub r2) .nil)
    have wd2 := noE_wp wd2
    exact ⟨v, rfl, sp_callb hk (s1.trans s2) r3 (r3.length.trans (C.args wd2)) wd2⟩⟩
end
end Ct

/-! what a call gives is new: only lists that hold objects are handed on as standing for good -/
namespace Ct
open PySem PySem.Spec PyProof.Rows L2
def isRf : V → Bool
  | .ref _ => true
  | _ => false
/-- without the flat lists -/
def noFl (G : Hp) : Hp := fun p => match G p with
  | some (.lst xs) => if xs.any isRf = true then some (.lst xs) else none
  | o => o
theorem noFl_same (G : Hp) : Same (noFl G) G := fun p o h => by
  unfold noFl at h
  cases e : G p with
  | none => rw [e] at h; cases h
  | some u =>
    rw [e] at h
    cases u with
    | lst xs =>
      dsimp only at h
      split at h
      · exact h
      · cases h
    | _ => exact h
theorem noFl_lst {G : Hp} {p : Addr} {xs : List V} (h : noFl G p = some (.lst xs)) : xs.any isRf = true := by
  unfold noFl at h
  cases e : G p with
  | none => rw [e] at h; cases h
  | some u =>
    rw [e] at h
    cases u with
    | lst ys =>
      dsimp only at h
      split at h
      · rename_i c
        cases h
        exact c
      · cases h
    | _ => cases h
theorem noFl_keep {G : Hp} {p : Addr} {xs : List V} (h : G p = some (.lst xs)) (c : xs.any isRf = true) : noFl G p = some (.lst xs) := by
  unfold noFl
  rw [h]
  dsimp only
  rw [if_pos c]
theorem noFl_tup {G : Hp} {p : Addr} {xs : List V} (h : G p = some (.tup xs)) : noFl G p = some (.tup xs) := by
  unfold noFl
  rw [h]
def flatT : D → Bool
  | .tuple xs => xs.all scal1
  | _ => false
/-- a scalar, or a list of flat tuples that is not empty -/
def rowsOK : D → Bool
  | .list rows => rows.all flatT && !rows.isEmpty
  | d => scal1 d
theorem RpL.sc {G G' : Hp} : ∀ {vs : List V} {ds : List D}, RpL G vs ds → ds.all scal1 = true → RpL G' vs ds
  | _, _, .nil, _ => .nil
  | _, _, .cons a b, h => by
    rw [List.all_cons, Bool.and_eq_true] at h
    exact .cons (a.scal h.1) (RpL.sc b h.2)
theorem Rp.flatT {G : Hp} {v : V} {d : D} (h : Rp G v d) (f : flatT d = true) : Rp (noFl G) v d ∧ isRf v = true := by
  cases h with
  | tup h hl => exact ⟨.tup (noFl_tup h) (hl.sc f), rfl⟩
  | _ => cases f
theorem RpL.flatT {G : Hp} : ∀ {vs : List V} {ds : List D}, RpL G vs ds → ds.all flatT = true → RpL (noFl G) vs ds ∧ (ds.isEmpty = false → vs.any isRf = true)
  | _, _, .nil, _ => ⟨.nil, fun h => nomatch h⟩
  | _, _, .cons a b, h => by
    rw [List.all_cons, Bool.and_eq_true] at h
    obtain ⟨x, y⟩ := a.flatT h.1
    refine ⟨.cons x (RpL.flatT b h.2).1, fun _ => ?_⟩
    rw [List.any_cons, y]
    rfl
theorem Rp.rows {G : Hp} {v : V} {d : D} (h : Rp G v d) (f : rowsOK d = true) : Rp (noFl G) v d := by
  cases h with
  | lst h hl =>
    have f : (_ && _) = true := f
    rw [Bool.and_eq_true] at f
    obtain ⟨x, y⟩ := hl.flatT f.1
    refine .lst (noFl_keep h (y ?_)) x
    have := f.2
    simpa using this
  | non => exact .non
  | bl b => exact .bl b
  | int i => exact .int i
  | _ => cases f
theorem RpL.rows {G : Hp} : ∀ {vs : List V} {ds : List D}, RpL G vs ds → ds.all rowsOK = true → RpL (noFl G) vs ds
  | _, _, .nil, _ => .nil
  | _, _, .cons a b, h => by
    rw [List.all_cons, Bool.and_eq_true] at h
    exact .cons (a.rows h.1) (RpL.rows b h.2)
/-- min(f(..).values()), the values lists of ints: what is given is new -/
def fMinVF (f : List D → Rs D) (g : Rho → Rs (List D)) : Rho → Rs D := fun ρ => (g ρ).bind fun ds => if ds.all rowsOK = true then (noE (f ds)).bind fun d => match d with
  | .dict es => if es.all (fun p => isInt1 p.1) = true then (match llD (es.map (·.2)) with
    | some (n :: ls) => .ok (.list ((minLs (n :: ls)).map PyData.int))
    | _ => .stuck) else .stuck
  | _ => .stuck
  else .stuck
section
variable {S : Sx} {k : Nat} {a : Addr} {fd : FuncData} {ps : List Str} {f : List D → Rs D} {x y : Str} {p pos ppos apos mpos : Pos} {e : Expr} {es : List Expr} {g : Rho → Rs (List D)}
theorem xminVF (hu : S.X.A.units + 64 < cLine) (hc : S.X.calm = true) (hm : S.X.mg "min" = none) (C : Df S.X.prog S.X.w S.X.K S.X.mg S.X.base S.ca S.cf k x a fd ps .e f) (hb : Binds S.X.K fd ps []) (hr : Room k S.X.A) (tk : Takes S.X S.W) (ha : XA S .e (e :: es) g) (hg : Gl S.X x := by rfl) (hgm : Gl S.X "min" := by rfl)
    (hdb : (x == ("__debug__" : Str)) = false := by decide) (he : starEach (e :: es) S.X.env = (false, eval e S.X.env) :: starEach es S.X.env := by rfl) (hpl : (backTo pos (starEach es S.X.env)).any (·.1) = false := by rfl)
    (hat : attributeBase (.Call (.Name x p) (e :: es) [] pos) "values" S.X.env (eval (.Call (.Name x p) (e :: es) [] pos) S.X.env) = eval (.Call (.Name x p) (e :: es) [] pos) S.X.env := by rfl) (hli : (apos.endLine == mpos.line) = true := by rfl)
    (hs : starEach [Expr.Call (.Attribute (.Call (.Name x p) (e :: es) [] pos) "values" apos) [] [] mpos] S.X.env = [(false, eval (Expr.Call (.Attribute (.Call (.Name x p) (e :: es) [] pos) "values" apos) [] [] mpos) S.X.env)] := by rfl) {mp mpos2 : Pos} :
    XX S .o (.Call (.Name "min" mp) [.Call (.Attribute (.Call (.Name x p) (e :: es) [] pos) "values" apos) [] [] mpos] [] mpos2) (fMinVF f g) :=
  let ⟨t, a1, a2⟩ := ha
  ⟨_, pe_minLists (by omega) hc hgm hm (pe_cg (E := WE S.W) C.ok hr hg C.gm C.kp hb .nil (fun σ => passAt tk σ) a1 hdb he hpl) hat hli hs, fun H0 G0 σ H G ρ Q q w => by
    refine a2 H0 G0 σ H G ρ _ q (Wp.imp (Wp.bind w) (fun ds wd vs H1 G1 s1 r1 => ?_) fun _ z => z)
    rw [List.append_nil]
    split at wd
    · rename_i hrows
      have w2 := noE_wp (Wp.bind wd)
      have r2 : RpL (noFl G1) vs ds := RpL.rows r1 hrows
      refine ⟨(RpL.length r1).trans (C.args w2), noFl G1, ds, (noFl_same G1).trans s1.sub, r2, Wp.imp w2 (fun d wd2 v H2 G2 s2 r3 => ?_) fun _ z => z.elim⟩
      split at wd2
      · rename_i es
        split at wd2
        · rename_i hk
          obtain ⟨b, o, kvs, rfl, h1, rk⟩ := Rp.dct_inv r3 hk
          split at wd2
          · rename_i n ls el
            have rv := rpk_vals rk
            rw [llD_eq el] at rv
            obtain ⟨qs, e1, e2, e3⟩ := RpL.lists (ls := n :: ls) rv
            refine ⟨b, kvs, qs, n :: ls, rfl, .inr ⟨o, s2.sub _ _ h1⟩, e1, e2, List.cons_ne_nil _ _, fun i r ns hq hn => .of (s2.sub _ _ (e3 i r ns hq hn).1), fun j r hq hn => ?_⟩
            obtain ⟨g2, rr⟩ := e3 j r _ hq hn
            have nref : ((minLs (n :: ls)).map V.int).any isRf = false := by
              rw [List.any_map]
              simp [isRf]
            have ga : noFl G1 r = none := by
              cases z : noFl G1 r with
              | none => rfl
              | some u =>
                have := s2.gg _ _ z
                rw [g2] at this
                cases this
                have := noFl_lst z
                rw [nref] at this
                cases this
            have h1n : H1 r = none := by
              cases z : H1 r with
              | none => rfl
              | some u =>
                have := s2.sep r ga (by rw [z]; exact Option.some_ne_none _)
                rw [g2] at this
                cases this
            have st : Step H1 G1 H2 G1 := ⟨s2.hh, Same.refl _, s1.sub.trans s2.hh, fun _ z _ => z⟩
            exact wp_ok wd2 _ H2 G1 (s1.trans st) ⟨r, _, _, rfl, rfl, s2.sub _ _ g2, Same.free s1.hh h1n, Same.free s1.sub h1n, RpL.of_ints _⟩
          · exact wd2.elim
        · exact wd2.elim
      · exact wd2.elim
    · exact wd.elim⟩
/-- return (e, x), x one's own -/
def fRet2 (i : Nat) (f : Rho → Rs D) : Rho → Out := fun ρ => (f ρ).out ρ fun d => match ρ[i]? with
  | some (.ow ds) => .ret (.tuple [d, .list ds])
  | _ => .stuck
theorem xs_ret2 {i : Nat} {z : Str} {f : Rho → Rs D} {n : Nat} {pos2 pos3 : Pos} (hv : PE S.X (.Name z p) (tVar i)) (h : XX S .e e f) (he : starEach (e :: [.Name z p]) S.X.env = (false, eval e S.X.env) :: starEach [.Name z p] S.X.env := by rfl) (he2 : starEach (.Name z p :: []) S.X.env = (false, eval (.Name z p) S.X.env) :: starEach [] S.X.env := by rfl) :
    XS S (.w (.c .g (.r (.r .g)))) (.Return (some (.Tuple [e, .Name z p] n pos2)) pos3) (fRet2 i f) :=
  let ⟨_, a1, a2⟩ := h; ⟨_, ps_ret (pe_tup (pa_cons a1 (pa_cons hv pa_nil he2) he)), fun H0 G0 σ H G ρ N q w => by
    refine a2 H0 G0 σ H G ρ _ q (Wp.imp (wp_out q w) (fun d wd v H1 G1 s1 r1 => ?_) fun _ z => z)
    have q1 := q.step s1
    split at wd
    · rename_i ds eo
      obtain ⟨ov, e1, pp, xs, rfl, h1, h2, h3, h4⟩ := q1.sl i _ eo
      refine ⟨_, e1, by show 2 ≤ sizeLine; decide, fun T hT => ?_⟩
      have ne : pp ≠ T := fun z => by rw [z, hT] at h1; cases h1
      have gT : G1 T = none := Same.free s1.sub hT
      refine wd _ _ G1 (q1.st.trans (Step.newO q1.st.sub hT)) ⟨T :: ([] ++ ([pp] ++ [])), .tup rfl upd_same gT (.con (.good r1) (.rep (.lst rfl (by rw [upd_ne ne]; exact h1) h2 (.good h4)) .nil)), by simp [Ne.symm ne], fun r hr => ?_⟩
      have hr : r = T ∨ r = pp := by simpa using hr
      rcases hr with rfl | rfl
      · exact Same.free q1.st.hh hT
      · exact h3
    · exact wd.elim⟩
end
end Ct

namespace Ct
open PySem PySem.Spec PyProof.Rows L2
theorem strict_of {ns : List Int} (h : ns.Pairwise (· ≤ ·)) (nd : ns.Nodup) : ns.Pairwise (· < ·) := by
  induction ns with
  | nil => exact .nil
  | cons x xs ih =>
    rw [List.pairwise_cons] at h
    rw [List.nodup_cons] at nd
    refine .cons (fun y hy => ?_) (ih h.2 nd.2)
    have z := h.1 y hy
    rcases Int.lt_or_eq_of_le z with z | z
    · exact z
    · exact absurd (z ▸ hy) nd.1
/-- the members, ascending, each once -/
def dedupS : List Int → List Int
  | [] => []
  | x :: xs => match dedupS xs with
    | [] => [x]
    | y :: ys => if x = y then y :: ys else x :: y :: ys
theorem dedup_mem (k : Int) : ∀ l : List Int, k ∈ dedupS l ↔ k ∈ l
  | [] => Iff.rfl
  | x :: xs => by
    have ih := dedup_mem k xs
    unfold dedupS
    cases e : dedupS xs with
    | nil =>
      rw [e] at ih
      simp only [List.mem_cons, List.not_mem_nil, or_false] at ih ⊢
      rw [← ih]
      simp
    | cons y ys =>
      rw [e] at ih
      dsimp only
      by_cases h : x = y
      · subst h
        rw [if_pos rfl, ih, List.mem_cons]
        constructor
        · exact .inr
        · rintro (z | z)
          · exact ih.mp (by rw [z]; exact List.mem_cons_self)
          · exact z
      · rw [if_neg h, List.mem_cons, ih, List.mem_cons]
theorem dedup_lt : ∀ l : List Int, l.Pairwise (· ≤ ·) → (dedupS l).Pairwise (· < ·)
  | [], _ => .nil
  | x :: xs, h => by
    rw [List.pairwise_cons] at h
    have ih := dedup_lt xs h.2
    unfold dedupS
    cases e : dedupS xs with
    | nil => exact List.pairwise_singleton _ _
    | cons y ys =>
      rw [e] at ih
      dsimp only
      by_cases q : x = y
      · rw [if_pos q]; exact ih
      · rw [if_neg q]
        have hy : y ∈ xs := by rw [← dedup_mem, e]; exact List.mem_cons_self
        have lt : x < y := by
          rcases Int.lt_or_eq_of_le (h.1 y hy) with z | z
          · exact z
          · exact absurd z q
        refine .cons (fun z hz => ?_) ih
        rcases List.mem_cons.mp hz with rfl | hz
        · exact lt
        · exact Int.lt_trans lt ((List.pairwise_cons.mp ih).1 z hz)
theorem strict_eq : ∀ {l m : List Int}, l.Pairwise (· < ·) → m.Pairwise (· < ·) → (∀ k, k ∈ l ↔ k ∈ m) → l = m
  | [], [], _, _, _ => rfl
  | [], b :: m, _, _, h => by simpa using (h b).mpr List.mem_cons_self
  | a :: l, [], _, _, h => by simpa using (h a).mp List.mem_cons_self
  | a :: l, b :: m, h1, h2, h => by
    rw [List.pairwise_cons] at h1 h2
    have e : a = b := by
      rcases List.mem_cons.mp ((h a).mp List.mem_cons_self) with z | z
      · exact z
      · rcases List.mem_cons.mp ((h b).mpr List.mem_cons_self) with y | y
        · exact y.symm
        · have := h2.1 a z
          have := h1.1 b y
          omega
    subst e
    rw [strict_eq h1.2 h2.2 fun k => ?_]
    have hk := h k
    rw [List.mem_cons, List.mem_cons] at hk
    constructor
    · intro z
      rcases hk.mp (.inr z) with y | y
      · subst y
        exact absurd (h1.1 k z) (Int.lt_irrefl _)
      · exact y
    · intro z
      rcases hk.mpr (.inr z) with y | y
      · subst y
        exact absurd (h2.1 k z) (Int.lt_irrefl _)
      · exact y
def sSortSet : D → Rs D
  | .list ds => match intsD ds with
    | some ns => if ns.length + 1 < scanBound then .ok (.list ((dedupS (sortI ns)).map PyData.int)) else .stuck
    | none => .stuck
  | _ => .stuck
end Ct


/-! ## plain laws of the functions -/
namespace Ct
open PySem L2
@[simp] theorem q_fSkip  {ρ : _} : fSkip  ρ = (.nx ρ) := id rfl
@[simp] theorem q_fSeq  (g h : Rho → Out) {ρ : _} : fSeq g h ρ = (match g ρ with
  | .nx ρ' => h ρ'
  | o => o) := id rfl
@[simp] theorem q_fAsg  (i : Nat) (f : Rho → Rs D) {ρ : _} : fAsg i f ρ = ((f ρ).out ρ fun d => .nx (ρ.set i (.va d))) := id rfl
def kOwn (i : Nat) (ρ : Rho) (d : D) : Out := match d with
  | .list ds => .nx (ρ.set i (.ow ds))
  | _ => .stuck
@[simp] theorem q_kOwn (i : Nat) (ρ : Rho) (ds : List D) : kOwn i ρ (.list ds) = .nx (ρ.set i (.ow ds)) := id rfl
@[simp] theorem q_fAsgO  (i : Nat) (f : Rho → Rs D) {ρ : _} : fAsgO i f ρ = ((f ρ).out ρ (kOwn i ρ)) := id rfl
@[simp] theorem q_fRet  (f : Rho → Rs D) {ρ : _} : fRet f ρ = ((f ρ).out ρ fun d => .ret d) := id rfl
@[simp] theorem q_fRetV  (i : Nat) {ρ : _} : fRetV i ρ = (match ρ[i]? with
  | some (.ow ds) => .ret (.list ds)
  | _ => .stuck) := id rfl
@[simp] theorem q_fIf  (c : Rho → Rs Bool) (g h : Rho → Out) {ρ : _} : fIf c g h ρ = ((c ρ).out ρ fun b => if b = true then g ρ else h ρ) := id rfl
@[simp] theorem q_fDrop  (f : Rho → Rs D) {ρ : _} : fDrop f ρ = ((f ρ).out ρ fun _ => .nx ρ) := id rfl
@[simp] theorem q_fAug  (i : Nat) (o : D → D → Rs D) (f : Rho → Rs D) {ρ : _} : fAug i o f ρ = ((fBin o (fV i) f ρ).out ρ fun d => .nx (ρ.set i (.va d))) := id rfl
@[simp] theorem q_fUn  (o : D → Rs D) (fa : Rho → Rs D) {ρ : _} : fUn o fa ρ = ((fa ρ).bind o) := id rfl
@[simp] theorem q_fBin  (o : D → D → Rs D) (fa fb : Rho → Rs D) {ρ : _} : fBin o fa fb ρ = ((fa ρ).bind fun x => (fb ρ).bind fun y => o x y) := id rfl
@[simp] theorem q_fV  (i : Nat) {ρ : _} : fV i ρ = (match ρ[i]? with
  | some (.va d) => .ok d
  | _ => .stuck) := id rfl
@[simp] theorem q_fB  (i : Nat) {ρ : _} : fB i ρ = (match ρ[i]? with
  | some (.va d) => .ok d
  | some (.ow ds) => .ok (.list ds)
  | _ => .stuck) := id rfl
@[simp] theorem q_fC  (d : D) {ρ : _} : fC d ρ = (.ok d) := id rfl
@[simp] theorem q_aNil  {ρ : _} : aNil  ρ = (.ok []) := id rfl
@[simp] theorem q_aCons  (f : Rho → Rs D) (g : Rho → Rs (List D)) {ρ : _} : aCons f g ρ = ((f ρ).bind fun d => (g ρ).bind fun ds => .ok (d :: ds)) := id rfl
@[simp] theorem q_fTup  (g : Rho → Rs (List D)) {ρ : _} : fTup g ρ = ((g ρ).bind fun ds => if ds.length ≤ sizeLine then .ok (.tuple ds) else .stuck) := id rfl
@[simp] theorem q_fLst  (g : Rho → Rs (List D)) {ρ : _} : fLst g ρ = ((g ρ).bind fun ds => if ds.length ≤ sizeLine then .ok (.list ds) else .stuck) := id rfl
@[simp] theorem q_fCl  (o : List D → Rs D) (g : Rho → Rs (List D)) {ρ : _} : fCl o g ρ = ((g ρ).bind o) := id rfl
@[simp] theorem q_toB  (f : Rho → Rs D) {ρ : _} : toB f ρ = ((f ρ).bind fun d => match d with
  | .bool b => .ok b
  | _ => .stuck) := id rfl
@[simp] theorem q_toT  (f : Rho → Rs D) {ρ : _} : toT f ρ = ((f ρ).bind fun d => match d with
  | .none => .ok false
  | .bool b => .ok b
  | .int i => .ok (i != 0)
  | .list ds => .ok (!ds.isEmpty)
  | .tuple ds => .ok (!ds.isEmpty)
  | _ => .stuck) := id rfl
@[simp] theorem q_fNot  (f : Rho → Rs Bool) {ρ : _} : fNot f ρ = ((f ρ).bind fun b => .ok (!b)) := id rfl
@[simp] theorem q_fAnd  (f g : Rho → Rs Bool) {ρ : _} : fAnd f g ρ = ((f ρ).bind fun b => if b = true then g ρ else .ok false) := id rfl
@[simp] theorem q_fOr  (f g : Rho → Rs Bool) {ρ : _} : fOr f g ρ = ((f ρ).bind fun b => if b = true then .ok true else g ρ) := id rfl
@[simp] theorem q_fAndV  (f g : Rho → Rs D) {ρ : _} : fAndV f g ρ = ((toB f ρ).bind fun b => if b = true then g ρ else .ok (.bool false)) := id rfl
@[simp] theorem q_fOrV  (f g : Rho → Rs D) {ρ : _} : fOrV f g ρ = ((toB f ρ).bind fun b => if b = true then .ok (.bool true) else g ρ) := id rfl
@[simp] theorem q_fNotV  (f : Rho → Rs D) {ρ : _} : fNotV f ρ = ((toB f ρ).bind fun b => .ok (.bool (!b))) := id rfl
@[simp] theorem q_fIfE  (c : Rho → Rs Bool) (f g : Rho → Rs D) {ρ : _} : fIfE c f g ρ = ((c ρ).bind fun b => if b = true then f ρ else g ρ) := id rfl
@[simp] theorem q_fMut  (i : Nat) (f : Rho → Rs (List D)) (o : List D → List D → Rs (List D)) {ρ : _} : fMut i f o ρ = (match ρ[i]? with
  | some (.ow ds) => (f ρ).out ρ fun as => (o ds as).out ρ fun es => .nx (ρ.set i (.ow es))
  | _ => .stuck) := id rfl
def kLst (d : D) : Rs (List D) := match d with
  | .list ds => .ok ds
  | _ => .stuck
@[simp] theorem q_kLst (ds : List D) : kLst (.list ds) = .ok ds := id rfl
@[simp] theorem q_iLst  (f : Rho → Rs D) {ρ : _} : iLst f ρ = (f ρ).bind kLst := id rfl
def rg1 (j : Int) : Rs (List D) := if -(2 ^ 62) ≤ j ∧ j < 2 ^ 62 then .ok (rngD 0 j) else .stuck
def rg2 (i j : Int) : Rs (List D) := if -(2 ^ 62) ≤ i ∧ i < 2 ^ 62 ∧ -(2 ^ 62) ≤ j ∧ j < 2 ^ 62 then .ok (rngD i j) else .stuck
def kr1 (as : List D) : Rs (List D) := match as with
  | [.int j] => rg1 j
  | _ => .stuck
def kr2 (as : List D) : Rs (List D) := match as with
  | [.int i, .int j] => rg2 i j
  | _ => .stuck
@[simp] theorem q_iRg1 (g : Rho → Rs (List D)) {ρ : _} : iRg1 g ρ = (g ρ).bind kr1 := id rfl
@[simp] theorem q_iRg2 (g : Rho → Rs (List D)) {ρ : _} : iRg2 g ρ = (g ρ).bind kr2 := id rfl
@[simp] theorem q_kr1 (j : Int) : kr1 [.int j] = rg1 j := id rfl
@[simp] theorem q_kr2 (i j : Int) : kr2 [.int i, .int j] = rg2 i j := id rfl
theorem rg1_ok {j : Int} (h : -1000000 ≤ j) (h2 : j ≤ 1000000) : rg1 j = .ok (rngD 0 j) := if_pos ⟨by omega, by omega⟩
theorem rg2_ok {i j : Int} (h : -1000000 ≤ j) (h2 : j ≤ 1000000) (h3 : -1000000 ≤ i) (h4 : i ≤ 1000000) : rg2 i j = .ok (rngD i j) := if_pos ⟨by omega, by omega, by omega, by omega⟩
/-- what enumerate gives, from k on -/
def enumD : Nat → List D → List D
  | _, [] => []
  | k, d :: ds => .tuple [.int (k : Int), d] :: enumD (k + 1) ds
theorem enum_map : ∀ (ds : List D) (k : Nat), (ds.mapIdx fun i d => PyData.tuple [.int ((k + i : Nat) : Int), d]) = enumD k ds
  | [], _ => rfl
  | d :: ds, k => by
    have := enum_map ds (k + 1)
    simp only [List.mapIdx_cons, enumD, Nat.add_zero]
    rw [← this]
    simp [Nat.add_assoc, Nat.add_comm 1]
theorem enum_map0 (ds : List D) : (ds.mapIdx fun i d => PyData.tuple [.int (i : Nat), d]) = enumD 0 ds := by
  rw [← enum_map ds 0]
  simp
def kEnu (d : D) : Rs (List D) := match d with
  | .list ds => .ok (enumD 0 ds)
  | _ => .stuck
@[simp] theorem q_kEnu (ds : List D) : kEnu (.list ds) = .ok (enumD 0 ds) := id rfl
@[simp] theorem q_iEnu  (f : Rho → Rs D) {ρ : _} : iEnu f ρ = (f ρ).bind kEnu := by
  have : iEnu f ρ = ((f ρ).bind fun d => match d with
    | .list ds => .ok (ds.mapIdx fun i d => .tuple [.int (i : Nat), d])
    | _ => .stuck) := id rfl
  rw [this]
  congr 1
  funext d
  cases d <;> simp [enum_map0, kEnu]
@[simp] theorem q_fFor  (f : Rho → Rs (List D)) (tg : Tg) (body : Rho → Out) {ρ : _} : fFor f tg body ρ = ((f ρ).out ρ fun ds => loopS tg body ds ρ) := id rfl
@[simp] theorem q_tgN  (i : Nat) {d ρ : _} : tgN i d ρ = (.ok (ρ.set i (.va d))) := id rfl
@[simp] theorem q_tgT  (l : List Tg) {d ρ : _} : tgT l d ρ = (match d with
  | .tuple ds => tgL l ds ρ
  | _ => .stuck) := id rfl
@[simp] theorem q_fYes  {ρ : _} : fYes  ρ = (.ok true) := id rfl
@[simp] theorem q_fCall  (f : List D → Rs D) (g : Rho → Rs (List D)) {ρ : _} : fCall f g ρ = ((g ρ).bind f) := id rfl
@[simp] theorem q_fCallB  (f : List D → Rs D) (g : Rho → Rs (List D)) {ρ : _} : fCallB f g ρ = ((g ρ).bind fun ds => noE (f ds)) := id rfl
@[simp] theorem q_fCallD  (f : List D → Rs D) (d : D) (g : Rho → Rs (List D)) {ρ : _} : fCallD f d g ρ = ((g ρ).bind fun ds => f (ds ++ [d])) := id rfl
@[simp] theorem q_fCallK  (f : List D → Rs D) (g : Rho → Rs (List D)) (h : Rho → Rs D) {ρ : _} : fCallK f g h ρ = ((g ρ).bind fun ds => (h ρ).bind fun d => f (ds ++ [d])) := id rfl
@[simp] theorem q_fSet  (i : Nat) (fv fk : Rho → Rs D) {ρ : _} : fSet i fv fk ρ = ((fv ρ).out ρ fun v => match ρ[i]? with
  | some (.ow ds) => (fk ρ).out ρ fun k => match k with
    | .int n => match ixN ds.length n with
      | some j => .nx (ρ.set i (.ow (ds.set j v)))
      | none => .stuck
    | _ => .stuck
  | _ => .stuck) := id rfl
@[simp] theorem q_fAsgT  (t : Tg) (f : Rho → Rs D) {ρ : _} : fAsgT t f ρ = ((f ρ).out ρ fun d => match t d ρ with
  | .ok ρ' => .nx ρ'
  | _ => .stuck) := id rfl
@[simp] theorem q_fPart0 {ρ : Rho} : fPart none ρ = .ok none := id rfl
theorem q_fPart1 {ρ : Rho} {f : Rho → Rs D} {i : Int} (h : f ρ = .ok (.int i)) : fPart (some f) ρ = .ok (some i) := by show (f ρ).bind _ = _; rw [h]; rfl
def kPart (d : D) : Rs (Option Int) := match d with
  | .int i => .ok (some i)
  | _ => .stuck
@[simp] theorem q_kPart (i : Int) : kPart (.int i) = .ok (some i) := id rfl
@[simp] theorem q_fPart {ρ : Rho} (f : Rho → Rs D) : fPart (some f) ρ = (f ρ).bind kPart := id rfl
def kSlice (d : D) (l h : Option Int) : Rs D := match d with
  | .list ds => .ok (.list (cutD ds l h))
  | _ => .stuck
@[simp] theorem q_kSlice (ds : List D) (l h : Option Int) : kSlice (.list ds) l h = .ok (.list (cutD ds l h)) := id rfl
@[simp] theorem q_fSlice  (f : Rho → Rs D) (lo hi : Rho → Rs (Option Int)) {ρ : _} : fSlice f lo hi ρ = ((f ρ).bind fun d => (lo ρ).bind fun l => (hi ρ).bind fun h => kSlice d l h) := id rfl
@[simp] theorem q_fRaise  (c : Nat) (g : Rho → Rs (List D)) {ρ : _} : fRaise c g ρ = ((g ρ).out ρ fun ds => .exc ⟨c, ds⟩ ρ) := id rfl
@[simp] theorem q_iTpl  (f : Rho → Rs D) {ρ : _} : iTpl f ρ = ((f ρ).bind fun d => match d with
  | .tuple ds => .ok ds
  | _ => .stuck) := id rfl
@[simp] theorem q_fFz  (i : Nat) (g : Rho → Out) {ρ : _} : fFz i g ρ = (g (fz i ρ)) := id rfl
@[simp] theorem q_out1 {α : Type} (a : α) (ρ : Rho) (k : α → Out) : (Rs.ok a).out ρ k = k a := id rfl
@[simp] theorem q_out2 {α : Type} (e : Er) (ρ : Rho) (k : α → Out) : (Rs.exc e : Rs α).out ρ k = .exc e ρ := id rfl
@[simp] theorem q_out3 {α : Type} (ρ : Rho) (k : α → Out) : (Rs.stuck : Rs α).out ρ k = .stuck := id rfl
@[simp] theorem q_res1 (own : Bool) (d : D) : (Out.ret d).res own = .ok d := id rfl
@[simp] theorem q_res2 (own : Bool) (e : Er) (ρ : Rho) : (Out.exc e ρ).res own = .exc e := id rfl
@[simp] theorem q_res3 (ρ : Rho) : (Out.nx ρ).res false = .ok .none := id rfl
@[simp] theorem q_o1 (o : D → Rs D) (d : D) : o1 o [d] = o d := id rfl
@[simp] theorem q_o2 (o : D → D → Rs D) (d e : D) : o2 o [d, e] = o d e := id rfl
@[simp] theorem q_tgL0 (ρ : Rho) : tgL [] [] ρ = .ok ρ := id rfl
@[simp] theorem q_tgL1 (t : Tg) (l : List Tg) (d : D) (ds : List D) (ρ : Rho) : tgL (t :: l) (d :: ds) ρ = (match t d ρ with | .ok ρ' => tgL l ds ρ' | .exc e => .exc e | .stuck => .stuck) := by
  show (t d ρ).bind _ = _
  cases t d ρ <;> rfl
@[simp] theorem q_sAdd (i j : Int) : sAdd (.int i) (.int j) = .ok (.int (i + j)) := id rfl
@[simp] theorem q_sAddI (i j : Int) : sAddI (.int i) (.int j) = .ok (.int (i + j)) := id rfl
@[simp] theorem q_sSub (i j : Int) : sSub (.int i) (.int j) = .ok (.int (i - j)) := id rfl
@[simp] theorem q_sNeg (i : Int) : sNeg (.int i) = .ok (.int (-i)) := id rfl
@[simp] theorem q_sLt (i j : Int) : sLt (.int i) (.int j) = .ok (.bool (decide (i < j))) := id rfl
@[simp] theorem q_sLe (i j : Int) : sLe (.int i) (.int j) = .ok (.bool (decide (i ≤ j))) := id rfl
@[simp] theorem q_sGt (i j : Int) : sGt (.int i) (.int j) = .ok (.bool (decide (j < i))) := id rfl
@[simp] theorem q_sGe (i j : Int) : sGe (.int i) (.int j) = .ok (.bool (decide (j ≤ i))) := id rfl
@[simp] theorem q_sIsN0 : sIsN .none = .ok (.bool true) := id rfl
@[simp] theorem q_sIsN1 (i : Int) : sIsN (.int i) = .ok (.bool false) := id rfl
@[simp] theorem q_sIsN2 (i : Bool) : sIsN (.bool i) = .ok (.bool false) := id rfl
@[simp] theorem q_sIsN3 (i : List D) : sIsN (.list i) = .ok (.bool false) := id rfl
@[simp] theorem q_sIsN4 (i : List D) : sIsN (.tuple i) = .ok (.bool false) := id rfl
@[simp] theorem q_sNotN0 : sNotN .none = .ok (.bool false) := id rfl
@[simp] theorem q_sNotN1 (i : Int) : sNotN (.int i) = .ok (.bool true) := id rfl
@[simp] theorem q_sNotN3 (i : List D) : sNotN (.list i) = .ok (.bool true) := id rfl
@[simp] theorem q_sNotN4 (i : List D) : sNotN (.tuple i) = .ok (.bool true) := id rfl
@[simp] theorem q_sLen0 (i : List D) : sLen (.list i) = .ok (.int (i.length : Int)) := id rfl
@[simp] theorem q_sLen1 (i : List D) : sLen (.tuple i) = .ok (.int (i.length : Int)) := id rfl
@[simp] theorem q_sAbs (i : Int) : sAbs (.int i) = .ok (.int (if i < 0 then -i else i)) := id rfl
@[simp] theorem q_sInt (i : Int) : sInt (.int i) = .ok (.int i) := id rfl
@[simp] theorem q_sMin2 (i j : Int) : sMin2 (.int i) (.int j) = .ok (.int (min i j)) := by
  show Rs.ok (PyData.int (if j < i then j else i)) = _
  congr 2
  split <;> omega
@[simp] theorem q_sMax2 (i j : Int) : sMax2 (.int i) (.int j) = .ok (.int (max i j)) := by
  show Rs.ok (PyData.int (if j > i then j else i)) = _
  congr 2
  split <;> omega
@[simp] theorem q_sList0 (l : List D) : sList (.list l) = .ok (.list l) := id rfl
@[simp] theorem q_sList1 (l : List D) : sList (.tuple l) = .ok (.list l) := id rfl
@[simp] theorem q_sEq (i j : Int) : sEq (.int i) (.int j) = .ok (.bool (decide (i = j))) := id rfl
@[simp] theorem q_sNe (i j : Int) : sNe (.int i) (.int j) = .ok (.bool (!decide (i = j))) := id rfl
theorem q_sMod {i j : Int} (h : 0 < j) : sMod (.int i) (.int j) = .ok (.int (i % j)) := if_pos h
theorem q_sDiv {i j : Int} (h : 0 < j) (h2 : j.natAbs.log2 < 9000) : sDiv (.int i) (.int j) = .ok (.int (i / j)) := if_pos ⟨h, h2⟩
theorem q_sMul {i j : Int} (h : i.natAbs.log2 + j.natAbs.log2 < 1000000) : sMul (.int i) (.int j) = .ok (.int (i * j)) := if_pos h
@[simp] theorem q_isB1 (i : Int) : sIsT "bool" (.int i) = .ok (.bool false) := id rfl
@[simp] theorem q_isB2 (i : Bool) : sIsT "bool" (.bool i) = .ok (.bool true) := id rfl
@[simp] theorem q_isB3 (i : List D) : sIsT "bool" (.list i) = .ok (.bool false) := id rfl
@[simp] theorem q_isB4 (i : List D) : sIsT "bool" (.tuple i) = .ok (.bool false) := id rfl
@[simp] theorem q_isB0 : sIsT "bool" .none = .ok (.bool false) := id rfl
@[simp] theorem q_isI1 (i : Int) : sIsT "int" (.int i) = .ok (.bool true) := id rfl
@[simp] theorem q_isI2 (i : Bool) : sIsT "int" (.bool i) = .ok (.bool true) := id rfl
@[simp] theorem q_isI3 (i : List D) : sIsT "int" (.list i) = .ok (.bool false) := id rfl
@[simp] theorem q_isI4 (i : List D) : sIsT "int" (.tuple i) = .ok (.bool false) := id rfl
@[simp] theorem q_isI0 : sIsT "int" .none = .ok (.bool false) := id rfl
@[simp] theorem q_isL1 (i : Int) : sIsT "list" (.int i) = .ok (.bool false) := id rfl
@[simp] theorem q_isL3 (i : List D) : sIsT "list" (.list i) = .ok (.bool true) := id rfl
@[simp] theorem q_isL4 (i : List D) : sIsT "list" (.tuple i) = .ok (.bool false) := id rfl
@[simp] theorem q_isL0 : sIsT "list" .none = .ok (.bool false) := id rfl
@[simp] theorem q_isT1 (i : Int) : sIsT "tuple" (.int i) = .ok (.bool false) := id rfl
@[simp] theorem q_isT3 (i : List D) : sIsT "tuple" (.list i) = .ok (.bool false) := id rfl
@[simp] theorem q_isT4 (i : List D) : sIsT "tuple" (.tuple i) = .ok (.bool true) := id rfl
@[simp] theorem q_isT0 : sIsT "tuple" .none = .ok (.bool false) := id rfl
theorem sizeLine_big : 1000000 ≤ sizeLine := by unfold sizeLine; decide
@[simp] theorem q_sz (n : Nat) (h : n ≤ 1000 := by decide) : (n ≤ sizeLine) = True := eq_true (Nat.le_trans h (Nat.le_trans (by decide) sizeLine_big))
theorem runB_eq {own : Bool} {m n : Nat} {g : Rho → Out} {ds : List D} (h : ds.length = m) : runB own m n g ds = (g (startR n ds)).res own := if_pos h
theorem runB_go {own : Bool} {m n : Nat} {g : Rho → Out} {ds : List D} (ρ : Rho) (h : ds.length = m) (hs : startR n ds = ρ) : runB own m n g ds = (g ρ).res own := by subst hs; exact if_pos h
theorem log2_lt {i : Int} {k : Nat} (h : i.natAbs < 2 ^ k) (hk : 0 < k) : i.natAbs.log2 < k := by
  by_cases z : i.natAbs = 0
  · rw [z]; simpa using hk
  · exact (Nat.log2_lt z).mpr h
theorem atI_in {ds : List D} {i : Int} {d : D} (h : 0 ≤ i) (e : ds[i.toNat]? = some d) : atI ds i = some d := by
  have hl : i.toNat < ds.length := (List.getElem?_eq_some_iff.mp e).1
  unfold atI ixN
  rw [if_pos h]
  first | rw [if_pos hl] | rw [if_pos (by omega)]
  simpa using e
theorem ix_list {ds : List D} {i : Int} {d : D} (h : 0 ≤ i) (e : ds[i.toNat]? = some d) : sIx (.list ds) (.int i) = .ok d := by
  show (match atI ds i with | some d => Rs.ok d | none => Rs.stuck) = _
  rw [atI_in h e]
theorem ix_tup {ds : List D} {i : Int} {d : D} (h : 0 ≤ i) (e : ds[i.toNat]? = some d) : sIx (.tuple ds) (.int i) = .ok d := by
  show (match atI ds i with | some d => Rs.ok d | none => Rs.stuck) = _
  rw [atI_in h e]
theorem ix_scr {ns : List Int} {i : Int} {n : Int} (h : 0 ≤ i) (e : ns[i.toNat]? = some n) : sIx (scriptD ns) (.int i) = .ok (.int n) := by
  show (match atI (ns.map PyData.int) i with | some d => Rs.ok d | none => Rs.stuck) = _
  rw [atI_in h (by rw [List.getElem?_map, e]; rfl)]
@[simp] theorem len_scr (ns : List Int) : sLen (scriptD ns) = .ok (.int (ns.length : Int)) := by
  show Rs.ok (PyData.int ((ns.map PyData.int).length : Int)) = _
  rw [List.length_map]
/-- a for loop by an invariant -/
theorem loop_inv {tg : Tg} {body : Rho → Out} (I : Nat → Rho → Prop) : ∀ (ds : List D) (k : Nat) (ρ : Rho), I k ρ → (∀ i d ρ, ds[i]? = some d → I (k + i) ρ → ∃ ρ1 ρ2, tg d ρ = .ok ρ1 ∧ (body ρ1 = .nx ρ2 ∨ body ρ1 = .ct ρ2) ∧ I (k + i + 1) ρ2) → ∃ ρ', loopS tg body ds ρ = .nx ρ' ∧ I (k + ds.length) ρ'
  | [], k, ρ, h, _ => ⟨ρ, rfl, h⟩
  | d :: ds, k, ρ, h, st => by
    obtain ⟨ρ1, ρ2, e1, e2, h2⟩ := st 0 d ρ rfl h
    obtain ⟨ρ', e3, h3⟩ := loop_inv I ds (k + 1) ρ2 h2 fun i d ρ e hi => by
      have := st (i + 1) d ρ e (by rw [show k + (i + 1) = k + 1 + i by omega]; exact hi)
      rwa [show k + (i + 1) + 1 = k + 1 + i + 1 by omega] at this
    refine ⟨ρ', ?_, by rw [List.length_cons, show k + (ds.length + 1) = k + 1 + ds.length by omega]; exact h3⟩
    rcases e2 with e2 | e2
    · simp only [loopS, e1, e2, e3]
    · simp only [loopS, e1, e2, e3]
/-- a comprehension without a test -/
theorem comp_map {tg : Tg} {e : Rho → Rs D} {ρ : Rho} (φ : D → D) : ∀ (ds : List D), (∀ d ∈ ds, ∃ ρ1, tg d ρ = .ok ρ1 ∧ e ρ1 = .ok (φ d)) → compS tg fYes e ρ ds = .ok (ds.map φ)
  | [], _ => rfl
  | d :: ds, h => by
    obtain ⟨ρ1, e1, e2⟩ := h d List.mem_cons_self
    have := comp_map φ ds fun d hd => h d (List.mem_cons_of_mem _ hd)
    simp only [compS, e1, fYes, e2, this, Rs.bind_ok, List.map_cons]
theorem rng_at {j : Int} {i : Nat} {d : D} (h : (rngD 0 j)[i]? = some d) : d = .int (i : Int) ∧ (i : Int) < j := by
  unfold rngD at h
  rw [List.getElem?_map] at h
  cases e : (List.range (j - 0).toNat)[i]? with
  | none => rw [e] at h; cases h
  | some k =>
    rw [e] at h
    have hk := List.getElem?_eq_some_iff.mp e
    obtain ⟨h1, h2⟩ := hk
    rw [List.getElem_range] at h2
    rw [List.length_range] at h1
    subst h2
    cases h
    refine ⟨by show PyData.int (0 + (i : Int)) = _; rw [Int.zero_add], by omega⟩
@[simp] theorem rng_len (j : Int) : (rngD 0 j).length = j.toNat := by unfold rngD; simp
/-- of so many bits -/
def Sm (k : Nat) (i : Int) : Prop := i.natAbs < 2 ^ k
theorem Sm.mono {a b : Nat} {i : Int} (h : Sm a i) (le : a ≤ b) : Sm b i := Nat.lt_of_lt_of_le h (Nat.pow_le_pow_right (by decide) le)
theorem Sm.log {a : Nat} {i : Int} (h : Sm a i) : i.natAbs.log2 ≤ a := by
  by_cases z : i.natAbs = 0
  · rw [z]; exact Nat.zero_le _
  · exact Nat.le_of_lt ((Nat.log2_lt z).mpr h)
theorem Sm.mul {a b : Nat} {i j : Int} (h1 : Sm a i) (h2 : Sm b j) : Sm (a + b) (i * j) := by
  unfold Sm at *
  rw [Int.natAbs_mul, Nat.pow_add]
  exact Nat.mul_lt_mul'' h1 h2
theorem Sm.add {a : Nat} {i j : Int} (h1 : Sm a i) (h2 : Sm a j) : Sm (a + 1) (i + j) := by
  unfold Sm at *
  rw [Nat.pow_succ]
  have := Int.natAbs_add_le i j
  omega
theorem Sm.sub {a : Nat} {i j : Int} (h1 : Sm a i) (h2 : Sm a j) : Sm (a + 1) (i - j) := by
  unfold Sm at *
  rw [Nat.pow_succ]
  omega
theorem mul_ok {a b : Nat} {i j : Int} (h1 : Sm a i) (h2 : Sm b j) (h : a + b < 1000000 := by decide) : sMul (.int i) (.int j) = .ok (.int (i * j)) := q_sMul (by have x := h1.log; have y := h2.log; omega)
theorem rg1_len (n : Nat) (hl : n ≤ 1000) : rg1 (n : Int) = .ok (rngD 0 (n : Int)) := by
  have h1 : -1000000 ≤ (n : Int) := by omega
  have h2 : (n : Int) ≤ 1000000 := by omega
  exact rg1_ok h1 h2
theorem le_size {n : Nat} (h : n ≤ 1000) : n ≤ sizeLine := Nat.le_trans h (Nat.le_trans (by decide) sizeLine_big)
theorem lt_size {n : Nat} (h : n ≤ 1000) : n < sizeLine := Nat.lt_of_le_of_lt h (Nat.lt_of_lt_of_le (by decide) sizeLine_big)
theorem for_rg {g : Rho → Rs (List D)} {ρ ρ' : Rho} {j : Int} {tg : Tg} {body : Rho → Out} (h : g ρ = .ok [.int j]) (h1 : -1000000 ≤ j) (h2 : j ≤ 1000000) (e : loopS tg body (rngD 0 j) ρ = .nx ρ') : fFor (iRg1 g) tg body ρ = .nx ρ' := by
  rw [q_fFor, q_iRg1, h, Rs.bind_ok, q_kr1, rg1_ok h1 h2]
  exact e
theorem for_rgn {g : Rho → Rs (List D)} {ρ ρ' : Rho} {n : Nat} {tg : Tg} {body : Rho → Out} (h : g ρ = .ok [.int (n : Int)]) (h2 : n ≤ 1000) (e : loopS tg body (rngD 0 (n : Int)) ρ = .nx ρ') : fFor (iRg1 g) tg body ρ = .nx ρ' := by
  rw [q_fFor, q_iRg1, h, Rs.bind_ok, q_kr1, rg1_len n h2]
  exact e
@[simp] theorem q_fz (i : Nat) (ρ : Rho) : fz i ρ = (match ρ[i]? with
  | some (.ow ds) => ρ.set i (.va (.list ds))
  | some (.ot k d) => if k.full = true then ρ.set i (.va d) else ρ
  | _ => ρ) := id rfl
theorem seq_nx {g h : Rho → Out} {ρ ρ' : Rho} (e : g ρ = .nx ρ') : fSeq g h ρ = h ρ' := by rw [q_fSeq, e]
theorem seq_ret {g h : Rho → Out} {ρ : Rho} {d : D} (e : g ρ = .ret d) : fSeq g h ρ = .ret d := by rw [q_fSeq, e]
theorem if_f {c : Rho → Rs Bool} {g h : Rho → Out} {ρ : Rho} (e : c ρ = .ok false) : fIf c g h ρ = h ρ := by rw [q_fIf, e]; rfl
theorem if_t {c : Rho → Rs Bool} {g h : Rho → Out} {ρ : Rho} (e : c ρ = .ok true) : fIf c g h ρ = g ρ := by rw [q_fIf, e]; rfl
theorem skip_f {c : Rho → Rs Bool} {g : Rho → Out} {ρ : Rho} (e : c ρ = .ok false) : fIf c g fSkip ρ = .nx ρ := by rw [q_fIf, e]; rfl
theorem seq_skip {c : Rho → Rs Bool} {g h : Rho → Out} {ρ : Rho} (e : c ρ = .ok false) : fSeq (fIf c g fSkip) h ρ = h ρ := seq_nx (skip_f e)
end Ct

/-! more of P0 -/
namespace Ct
open PySem L2
theorem call2 {f : List D → Rs D} {a b : Rho → Rs D} {ρ : Rho} {x y : D} {r : Rs D} (ha : a ρ = .ok x) (hb : b ρ = .ok y) (e : f [x, y] = r) : fCall f (aCons a (aCons b aNil)) ρ = r := by
  rw [q_fCall, q_aCons, ha, Rs.bind_ok, q_aCons, hb, Rs.bind_ok, q_aNil, Rs.bind_ok, Rs.bind_ok, Rs.bind_ok]
  exact e
theorem call3 {f : List D → Rs D} {a b c : Rho → Rs D} {ρ : Rho} {x y z : D} {r : Rs D} (ha : a ρ = .ok x) (hb : b ρ = .ok y) (hc : c ρ = .ok z) (e : f [x, y, z] = r) : fCall f (aCons a (aCons b (aCons c aNil))) ρ = r := by
  rw [q_fCall, q_aCons, ha, Rs.bind_ok, q_aCons, hb, Rs.bind_ok, q_aCons, hc, Rs.bind_ok, q_aNil, Rs.bind_ok, Rs.bind_ok, Rs.bind_ok, Rs.bind_ok]
  exact e
theorem callK {f : List D → Rs D} {a b : Rho → Rs D} {ρ : Rho} {x y : D} {r : Rs D} (ha : a ρ = .ok x) (hb : b ρ = .ok y) (e : f [x, y] = r) : fCallK f (aCons a aNil) b ρ = r := by
  rw [q_fCallK, q_aCons, ha, Rs.bind_ok, q_aNil, Rs.bind_ok, Rs.bind_ok, hb, Rs.bind_ok]
  exact e
theorem callD {f : List D → Rs D} {a : Rho → Rs D} {ρ : Rho} {x y : D} {r : Rs D} (ha : a ρ = .ok x) (e : f [x, y] = r) : fCallD f y (aCons a aNil) ρ = r := by
  rw [q_fCallD, q_aCons, ha, Rs.bind_ok, q_aNil, Rs.bind_ok, Rs.bind_ok]
  exact e
theorem asg_nx {i : Nat} {f : Rho → Rs D} {ρ ρ' : Rho} {d : D} (e : f ρ = .ok d) (hs : ρ.set i (.va d) = ρ') : fAsg i f ρ = .nx ρ' := by
  rw [q_fAsg, e, q_out1, hs]
theorem toB_ok {f : Rho → Rs D} {ρ : Rho} {b : Bool} (e : f ρ = .ok (.bool b)) : toB f ρ = .ok b := by rw [q_toB, e]; rfl
theorem not_ok {f : Rho → Rs Bool} {ρ : Rho} {b : Bool} (e : f ρ = .ok b) : fNot f ρ = .ok (!b) := by rw [q_fNot, e]; rfl
theorem or_f {f g : Rho → Rs Bool} {ρ : Rho} (e1 : f ρ = .ok false) (e2 : g ρ = .ok false) : fOr f g ρ = .ok false := by rw [q_fOr, e1, Rs.bind_ok, if_neg (by decide), e2]
theorem ixN_in {n : Nat} {i : Int} (h : 0 ≤ i) (h2 : i < n) : ixN n i = some i.toNat := by
  unfold ixN
  rw [if_pos h, if_pos h2]
theorem set_ok {i : Nat} {fv fk : Rho → Rs D} {ρ ρ' : Rho} {v : D} {ds : List D} {k : Int} (e1 : fv ρ = .ok v) (e2 : ρ[i]? = some (.ow ds)) (e3 : fk ρ = .ok (.int k)) (h : 0 ≤ k) (h2 : k < (ds.length : Int)) (hs : ρ.set i (.ow (ds.set k.toNat v)) = ρ') : fSet i fv fk ρ = .nx ρ' := by
  rw [q_fSet, e1, q_out1, e2]
  show (fk ρ).out ρ _ = _
  rw [e3, q_out1]
  show (match ixN ds.length k with | some j => Out.nx (ρ.set i (.ow (ds.set j v))) | none => Out.stuck) = _
  rw [ixN_in h h2]
  show Out.nx _ = _
  rw [hs]
/-- a bound for what the scripts' numbers can be; it is never unfolded -/
def BB : Int := 2 ^ 1200
def BC : Int := BB * BB
theorem BB_big : (10 : Int) ^ 300 ≤ BB := by unfold BB; decide +kernel
theorem BB_pos : 1 ≤ BB := by unfold BB; decide +kernel
theorem BC_big : BB ≤ BC := by unfold BC BB; decide +kernel
theorem BB_le (k : Nat) (h : k ≤ 300 := by decide) : (10 : Int) ^ k ≤ BB := Int.le_trans (by exact_mod_cast Nat.pow_le_pow_right (by decide) h) BB_big
theorem BC_sm {x : Int} (h1 : -(1000000000000 * BC) ≤ x) (h2 : x ≤ 1000000000000 * BC) : Sm 2450 x := by
  have e : (1000000000000 * BC).toNat < 2 ^ 2450 := by unfold BC BB; decide +kernel
  unfold Sm
  have p : 0 ≤ BC := by unfold BC BB; decide +kernel
  omega
/-- products of numbers that are not too great -/
theorem mulC {x y : Int} (h1 : -(1000000000000 * BC) ≤ x) (h2 : x ≤ 1000000000000 * BC) (h3 : -(1000000000000 * BC) ≤ y) (h4 : y ≤ 1000000000000 * BC) : sMul (.int x) (.int y) = .ok (.int (x * y)) := mul_ok (BC_sm h1 h2) (BC_sm h3 h4)
theorem divC {x y : Int} (h1 : 1 ≤ y) (h2 : y ≤ 1000000000000 * BC) : sDiv (.int x) (.int y) = .ok (.int (x / y)) := q_sDiv (by omega) (Nat.lt_of_le_of_lt (BC_sm (by have : 0 ≤ BC := (by unfold BC BB; decide +kernel); omega) h2).log (by decide))
theorem rg1_map (n : Nat) (hl : n ≤ 1000) : rg1 (n : Int) = .ok ((List.range n).map fun k : Nat => PyData.int (k : Int)) := by
  rw [rg1_len n hl]
  unfold rngD
  simp
@[simp] theorem q_wipe0 (ρ : Rho) : wipeR ρ [] = ρ := id rfl
@[simp] theorem q_wipe1 (ρ : Rho) (v : Nat) (vs : List Nat) : wipeR ρ (v :: vs) = (wipeR ρ vs).set v .un := id rfl
def kRvR (d : D) : Rs (List D) := match d with
  | .int j => (rg1 j).bind fun ds => .ok ds.reverse
  | _ => .stuck
@[simp] theorem q_kRvR (j : Int) : kRvR (.int j) = (rg1 j).bind fun ds => .ok ds.reverse := id rfl
theorem iRvR_body (d : D) : (match d with
  | .int j => if -(2 ^ 62) ≤ j ∧ j < 2 ^ 62 then Rs.ok (rngD 0 j).reverse else .stuck
  | _ => .stuck) = kRvR d := by
  cases d with
  | int j =>
    rw [q_kRvR]
    unfold rg1
    dsimp only
    split
    · rw [Rs.bind_ok]
    · rw [Rs.bind_stuck]
  | _ => rfl
@[simp] theorem q_iRvR (f : Rho → Rs D) {ρ : Rho} : iRvR f ρ = (f ρ).bind kRvR := by
  unfold iRvR
  congr 1
  funext d
  exact iRvR_body d
def kRv (d : D) : Rs (List D) := match d with
  | .list ds => .ok ds.reverse
  | _ => .stuck
@[simp] theorem q_iRv (f : Rho → Rs D) {ρ : Rho} : iRv f ρ = (f ρ).bind kRv := id rfl
@[simp] theorem q_kRv (ds : List D) : kRv (.list ds) = .ok ds.reverse := id rfl
@[simp] theorem q_kLR (ds : List D) : kLR (.list ds) = .ok (.list ds.reverse) := id rfl
@[simp] theorem q_fLstRev (f : Rho → Rs D) {ρ : Rho} : fLstRev f ρ = (f ρ).bind kLR := id rfl
def kTpl (d : D) : Rs (List D) := match d with
  | .tuple ds => .ok ds
  | _ => .stuck
@[simp] theorem q_kTpl (ds : List D) : kTpl (.tuple ds) = .ok ds := id rfl
def kSc (d : D) : Rs D := if scal1 d = true then .ok d else .stuck
@[simp] theorem q_fSc (f : Rho → Rs D) {ρ : Rho} : fSc f ρ = (f ρ).bind kSc := id rfl
@[simp] theorem q_kSc0 : kSc .none = .ok .none := id rfl
@[simp] theorem q_kSc1 (b : Bool) : kSc (.bool b) = .ok (.bool b) := id rfl
@[simp] theorem q_kSc2 (b : Int) : kSc (.int b) = .ok (.int b) := id rfl
@[simp] theorem q_noE1 {α : Type} (a : α) : noE (Rs.ok a) = .ok a := id rfl
@[simp] theorem q_mAppend (ds : List D) (d : D) : mAppend ds [d] = if ds.length < sizeLine then .ok (ds ++ [d]) else .stuck := id rfl
/-- a name that is given a new whole number in one case alone: no two ways -/
theorem q_ifAsg (c : Rho → Rs Bool) (i : Nat) (f : Rho → Rs D) {ρ : Rho} : fIf c (fAsg i f) fSkip ρ = (c ρ).out ρ fun b => (match f ρ, ρ[i]? with
    | .ok (.int x), some (.va (.int y)) => .nx (ρ.set i (.va (.int (if b = true then x else y))))
    | _, _ => if b = true then fAsg i f ρ else .nx ρ) := by
  rw [q_fIf]
  congr 1
  funext b
  generalize hr : f ρ = r
  generalize ho : ρ[i]? = o
  have key : ∀ x y : Int, r = .ok (.int x) → o = some (.va (.int y)) → (if b = true then fAsg i f ρ else fSkip ρ) = .nx (ρ.set i (.va (.int (if b = true then x else y)))) := by
    intro x y e1 e2
    subst e1
    subst e2
    cases b with
    | true => simp [hr]
    | false =>
      obtain ⟨h, e3⟩ := List.getElem?_eq_some_iff.mp ho
      simp
      rw [← e3, List.set_getElem_self]
  have ot : (if b = true then fAsg i f ρ else fSkip ρ) = (if b = true then fAsg i f ρ else .nx ρ) := by cases b <;> simp
  match r, o, key with
  | .ok (.int x), some (.va (.int y)), k => exact k x y rfl rfl
  | .ok (.int x), some (.va .none), _ | .ok (.int x), some (.va (.bool _)), _ | .ok (.int x), some (.va (.str _)), _ | .ok (.int x), some (.va (.list _)), _ | .ok (.int x), some (.va (.tuple _)), _ | .ok (.int x), some (.va (.dict _)), _ => exact ot
  | .ok (.int x), some .un, _ | .ok (.int x), some (.ow _), _ | .ok (.int x), some (.od _), _ | .ok (.int x), some (.ex _), _ | .ok (.int x), some (.ot _ _), _ | .ok (.int x), none, _ => exact ot
  | .ok .none, _, _ | .ok (.bool _), _, _ | .ok (.str _), _, _ | .ok (.list _), _, _ | .ok (.tuple _), _, _ | .ok (.dict _), _, _ | .exc _, _, _ | .stuck, _, _ => exact ot
/-- the same for any value -/
theorem q_ifAsgD (c : Rho → Rs Bool) (i : Nat) (f : Rho → Rs D) {ρ : Rho} : fIf c (fAsg i f) fSkip ρ = (c ρ).out ρ fun b => (match f ρ, ρ[i]? with
    | .ok x, some (.va y) => .nx (ρ.set i (.va (if b = true then x else y)))
    | _, _ => if b = true then fAsg i f ρ else .nx ρ) := by
  rw [q_fIf]
  congr 1
  funext b
  generalize hr : f ρ = r
  generalize ho : ρ[i]? = o
  have ot : (if b = true then fAsg i f ρ else fSkip ρ) = (if b = true then fAsg i f ρ else .nx ρ) := by cases b <;> simp
  cases r with
  | ok x =>
    cases o with
    | none => exact ot
    | some s =>
      cases s with
      | va y =>
        cases b with
        | true => simp [hr]
        | false =>
          obtain ⟨h, e3⟩ := List.getElem?_eq_some_iff.mp ho
          simp
          rw [← e3, List.set_getElem_self]
      | _ => exact ot
  | _ => exact ot
theorem q_fTry (sb : Nat → Nat → Option Bool) (body : Rho → Out) (hs : List Hdl) {ρ : Rho} : fTry sb body hs ρ = (match body ρ with
  | .exc er ρ1 => handleS sb er ρ1 hs
  | o => o) := id rfl
theorem try_exc {sb : Nat → Nat → Option Bool} {body : Rho → Out} {hs : List Hdl} {ρ ρ1 : Rho} {er : Er} (e : body ρ = .exc er ρ1) : fTry sb body hs ρ = handleS sb er ρ1 hs := by rw [q_fTry, e]
theorem try_ret {sb : Nat → Nat → Option Bool} {body : Rho → Out} {hs : List Hdl} {ρ : Rho} {d : D} (e : body ρ = .ret d) : fTry sb body hs ρ = .ret d := by rw [q_fTry, e]
theorem try_nx {sb : Nat → Nat → Option Bool} {body : Rho → Out} {hs : List Hdl} {ρ ρ' : Rho} (e : body ρ = .nx ρ') : fTry sb body hs ρ = .nx ρ' := by rw [q_fTry, e]
@[simp] theorem q_h0 (sb : Nat → Nat → Option Bool) (er : Er) (ρ : Rho) : handleS sb er ρ [] = .exc er ρ := id rfl
theorem q_h1 (sb : Nat → Nat → Option Bool) (er : Er) (ρ : Rho) (hc : Nat) (o : Option Nat) (su : Rho → Out) (r : List Hdl) : handleS sb er ρ ((hc, o, su) :: r) = (match sb er.c hc with
    | some true => outG o (su (inR o er ρ))
    | some false => handleS sb er ρ r
    | none => .stuck) := id rfl
theorem q_ht {sb : Nat → Nat → Option Bool} {er : Er} {ρ : Rho} {hc : Nat} {o : Option Nat} {su : Rho → Out} {r : List Hdl} (h : sb er.c hc = some true) : handleS sb er ρ ((hc, o, su) :: r) = outG o (su (inR o er ρ)) := by rw [q_h1, h]
theorem q_hf {sb : Nat → Nat → Option Bool} {er : Er} {ρ : Rho} {hc : Nat} {o : Option Nat} {su : Rho → Out} {r : List Hdl} (h : sb er.c hc = some false) : handleS sb er ρ ((hc, o, su) :: r) = handleS sb er ρ r := by rw [q_h1, h]
@[simp] theorem q_inR0 (er : Er) (ρ : Rho) : inR none er ρ = ρ := id rfl
@[simp] theorem q_inR1 (i : Nat) (er : Er) (ρ : Rho) : inR (some i) er ρ = ρ.set i (.ex er) := id rfl
@[simp] theorem q_outG (o : Option Nat) (d : D) : outG o (.ret d) = .ret d := id rfl
@[simp] theorem q_fExF (i c j : Nat) {ρ : Rho} : fExF i c j ρ = (match ρ[i]? with
  | some (.ex er) => if er.c = c then (match er.fs[j]? with
    | some d => .ok d
    | none => .stuck) else .stuck
  | _ => .stuck) := id rfl
@[simp] theorem q_fIsE (i c : Nat) (b : Bool) {ρ : Rho} : fIsE i c b ρ = (match ρ[i]? with
  | some (.ex er) => if er.c = c then .ok (.bool b) else .stuck
  | _ => .stuck) := id rfl
/-- a loop over a typed list -/
theorem loop_st {α σ : Type} {tg : Tg} {body : Rho → Out} (p : α → D) (S : σ → Rho) (st : σ → α → σ) : ∀ (l : List α) (s : σ), (∀ s x, x ∈ l → ∃ ρ1, tg (p x) (S s) = .ok ρ1 ∧ (body ρ1 = .nx (S (st s x)) ∨ body ρ1 = .ct (S (st s x)))) → loopS tg body (l.map p) (S s) = .nx (S (l.foldl st s))
  | [], _, _ => rfl
  | x :: l, s, h => by
    obtain ⟨ρ1, e1, e2⟩ := h s x List.mem_cons_self
    have e3 := loop_st p S st l (st s x) fun s y hy => h s y (List.mem_cons_of_mem _ hy)
    rw [List.foldl_cons, ← e3]
    rcases e2 with e2 | e2
    · simp only [List.map_cons, loopS, e1, e2]
    · simp only [List.map_cons, loopS, e1, e2]
/-- the same with an invariant -/
theorem loop_in {α σ : Type} {tg : Tg} {body : Rho → Out} (p : α → D) (S : σ → Rho) (I : Nat → σ → Prop) : ∀ (l : List α) (k : Nat) (s : σ), I k s → (∀ i s x, l[i]? = some x → I (k + i) s → ∃ s' ρ1, tg (p x) (S s) = .ok ρ1 ∧ (body ρ1 = .nx (S s') ∨ body ρ1 = .ct (S s')) ∧ I (k + i + 1) s') → ∃ s', loopS tg body (l.map p) (S s) = .nx (S s') ∧ I (k + l.length) s'
  | [], _, s, h, _ => ⟨s, rfl, h⟩
  | x :: l, k, s, h, st => by
    obtain ⟨s1, ρ1, e1, e2, h2⟩ := st 0 s x rfl h
    obtain ⟨s', e3, h3⟩ := loop_in p S I l (k + 1) s1 h2 fun i s y e hi => by
      have := st (i + 1) s y e (by rw [show k + (i + 1) = k + 1 + i by omega]; exact hi)
      rwa [show k + (i + 1) + 1 = k + 1 + i + 1 by omega] at this
    refine ⟨s', ?_, by rw [List.length_cons, show k + (l.length + 1) = k + 1 + l.length by omega]; exact h3⟩
    rw [← e3]
    rcases e2 with e2 | e2
    · simp only [List.map_cons, loopS, e1, e2]
    · simp only [List.map_cons, loopS, e1, e2]
/-- a range as a typed list -/
theorem rng_map (n : Nat) : rngD 0 (n : Int) = (List.range n).map fun k : Nat => PyData.int (k : Int) := by
  unfold rngD
  simp
theorem rng_map2 (a n : Nat) (h : a ≤ n) : rngD (a : Int) (n : Int) = (List.range (n - a)).map fun k : Nat => PyData.int ((a + k : Nat) : Int) := by
  unfold rngD
  have : ((n : Int) - (a : Int)).toNat = n - a := by omega
  rw [this]
  simp
theorem rg2_len (a n : Nat) (h : a ≤ 100000) (hn : n ≤ 100000) : rg2 (a : Int) (n : Int) = .ok (rngD (a : Int) (n : Int)) := rg2_ok (by omega) (by omega) (by omega) (by omega)
@[simp] theorem rg1_0 : rg1 0 = .ok [] := rg1_ok (by decide) (by decide)
@[simp] theorem rg1_2 : rg1 2 = .ok [.int 0, .int 1] := rg1_ok (by decide) (by decide)
@[simp] theorem rg1_3 : rg1 3 = .ok [.int 0, .int 1, .int 2] := rg1_ok (by decide) (by decide)
@[simp] theorem rg1_4 : rg1 4 = .ok [.int 0, .int 1, .int 2, .int 3] := rg1_ok (by decide) (by decide)
@[simp] theorem rg1_5 : rg1 5 = .ok [.int 0, .int 1, .int 2, .int 3, .int 4] := rg1_ok (by decide) (by decide)
@[simp] theorem lst_0 (a : D) (l : List D) : sIx (.list (a :: l)) (.int 0) = .ok a := ix_list (by decide) rfl
@[simp] theorem lst_1 (a b : D) (l : List D) : sIx (.list (a :: b :: l)) (.int 1) = .ok b := ix_list (by decide) rfl
@[simp] theorem lst_2 (a b c : D) (l : List D) : sIx (.list (a :: b :: c :: l)) (.int 2) = .ok c := ix_list (by decide) rfl
@[simp] theorem lst_3 (a b c d : D) (l : List D) : sIx (.list (a :: b :: c :: d :: l)) (.int 3) = .ok d := ix_list (by decide) rfl
@[simp] theorem lst_4 (a b c d e : D) (l : List D) : sIx (.list (a :: b :: c :: d :: e :: l)) (.int 4) = .ok e := ix_list (by decide) rfl
@[simp] theorem tup_0 (a : D) (l : List D) : sIx (.tuple (a :: l)) (.int 0) = .ok a := ix_tup (by decide) rfl
@[simp] theorem tup_1 (a b : D) (l : List D) : sIx (.tuple (a :: b :: l)) (.int 1) = .ok b := ix_tup (by decide) rfl
@[simp] theorem tup_2 (a b c : D) (l : List D) : sIx (.tuple (a :: b :: c :: l)) (.int 2) = .ok c := ix_tup (by decide) rfl
@[simp] theorem tup_3 (a b c d : D) (l : List D) : sIx (.tuple (a :: b :: c :: d :: l)) (.int 3) = .ok d := ix_tup (by decide) rfl
@[simp] theorem tup_4 (a b c d e : D) (l : List D) : sIx (.tuple (a :: b :: c :: d :: e :: l)) (.int 4) = .ok e := ix_tup (by decide) rfl
theorem ix_map {α : Type} {p : α → D} {l : List α} {k : Nat} {x : α} (h : l[k]? = some x) : sIx (.list (l.map p)) (.int (k : Int)) = .ok (p x) := ix_list (by omega) (by simp [h])
theorem ix_mapI {α : Type} {p : α → D} {l : List α} {k : Int} {x : α} (h0 : 0 ≤ k) (h : l[k.toNat]? = some x) : sIx (.list (l.map p)) (.int k) = .ok (p x) := ix_list h0 (by simp [h])
theorem ix_neg {ds : List D} {k : Nat} {d : D} (h : 1 ≤ k) (hk : k ≤ ds.length) (e : ds[ds.length - k]? = some d) : sIx (.list ds) (.int (-(k : Int))) = .ok d := by
  show (match atI ds (-(k : Int)) with | some d => Rs.ok d | none => Rs.stuck) = _
  have : ixN ds.length (-(k : Int)) = some (ds.length - k) := by
    unfold ixN
    rw [if_neg (by omega)]
    have : ¬ (-(k : Int) + (ds.length : Int) < 0) := by omega
    first
      | (rw [if_pos (by omega)]; congr 1; omega)
      | (rw [if_neg (by omega)]; congr 1; omega)
  unfold atI
  rw [this]
  simp [e]
end Ct

/-! plain laws of the newer functions -/
namespace Ct
open PySem L2
@[simp] theorem q_at1 (s : Sh) (n : Nat) : (Sh.r s).at' n = s := id rfl
@[simp] theorem q_at2 (s k : Sh) : (Sh.c s k).at' 0 = s := id rfl
@[simp] theorem q_at3 (s k : Sh) : (Sh.c s k).at' 1 = k.at' 0 := id rfl
@[simp] theorem q_at4 (s k : Sh) : (Sh.c s k).at' 2 = k.at' 1 := id rfl
@[simp] theorem q_put1 (s t : Sh) : (Sh.r s).put 0 t = .c t (.r s) := id rfl
@[simp] theorem q_put2 (s t : Sh) : (Sh.r s).put 1 t = .c s ((Sh.r s).put 0 t) := id rfl
@[simp] theorem q_put3 (s k t : Sh) : (Sh.c s k).put 0 t = .c t k := id rfl
@[simp] theorem q_put4 (s k t : Sh) : (Sh.c s k).put 1 t = .c s (k.put 0 t) := id rfl
@[simp] theorem q_put5 (s k t : Sh) : (Sh.c s k).put 2 t = .c s (k.put 1 t) := id rfl
@[simp] theorem q_nd1 (s : Sh) : (Sh.r s).node = true := id rfl
@[simp] theorem q_nd2 (s k : Sh) : (Sh.c s k).node = k.node := id rfl
@[simp] theorem q_fu1 (s : Sh) : (Sh.r s).full = s.full := id rfl
@[simp] theorem q_fu2 (s k : Sh) : (Sh.c s k).full = (s.full && k.full) := id rfl
@[simp] theorem q_fu3 : Sh.g.full = true := id rfl
@[simp] theorem q_fu4 : Sh.x.full = false := id rfl
@[simp] theorem q_slg (d : D) : slW .g d = .va d := id rfl
@[simp] theorem q_slx (d : D) : slW .x d = .un := id rfl
@[simp] theorem q_sl1 (s : Sh) : slW (.r s) .none = .va .none := id rfl
@[simp] theorem q_sl2 (s : Sh) (b : Bool) : slW (.r s) (.bool b) = .va (.bool b) := id rfl
@[simp] theorem q_sl3 (s : Sh) (i : Int) : slW (.r s) (.int i) = .va (.int i) := id rfl
@[simp] theorem q_sl4 (ds : List D) : slW (.r .g) (.list ds) = .ow ds := id rfl
@[simp] theorem q_sl5 (s : Sh) (ds : List D) : slW (.r (.r s)) (.list ds) = .ot (.r (.r s)) (.list ds) := id rfl
@[simp] theorem q_sl5t (s : Sh) (ds : List D) : slW (.r s) (.tuple ds) = .ot (.r s) (.tuple ds) := by cases s <;> rfl
@[simp] theorem q_sl6 (s k : Sh) : slW (.c s k) .none = .va .none := id rfl
@[simp] theorem q_sl7 (s k : Sh) (b : Bool) : slW (.c s k) (.bool b) = .va (.bool b) := id rfl
@[simp] theorem q_sl8 (s k : Sh) (i : Int) : slW (.c s k) (.int i) = .va (.int i) := id rfl
@[simp] theorem q_sl9 (s k : Sh) (ds : List D) : slW (.c s k) (.tuple ds) = .ot (.c s k) (.tuple ds) := id rfl
@[simp] theorem q_sl10 (s k : Sh) (ds : List D) : slW (.c s k) (.list ds) = .ot (.c s k) (.list ds) := id rfl
@[simp] theorem q_fAsgW (i : Nat) (k : Sh) (f : Rho → Rs D) {ρ : Rho} : fAsgW i k f ρ = (f ρ).out ρ fun d => .nx (ρ.set i (slW k d)) := id rfl
@[simp] theorem q_fRetW (i : Nat) (k : Sh) {ρ : Rho} : fRetW i k ρ = (match ρ[i]? with
  | some (.ow ds) => if k = .r .g then .ret (.list ds) else .stuck
  | some (.ot k' d) => if k = k' then .ret d else .stuck
  | some (.va d) => if scal1 d = true then .ret d else .stuck
  | _ => .stuck) := id rfl
@[simp] theorem q_fT (i : Nat) {ρ : Rho} : fT i ρ = (match ρ[i]? with
  | some (.va d) => .ok d
  | some (.ow ds) => .ok (.list ds)
  | some (.ot k d) => if k.full = true then .ok d else .stuck
  | _ => .stuck) := id rfl
@[simp] theorem q_fAppW (i : Nat) (s : Sh) (f : Rho → Rs D) {ρ : Rho} : fAppW i s f ρ = (match ρ[i]? with
  | some (.ot k (.list ds)) => if k.node = true ∧ k.at' ds.length = s ∧ ds.length < sizeLine then (f ρ).out ρ fun d => .nx (ρ.set i (.ot k (.list (ds ++ [d])))) else .stuck
  | _ => .stuck) := id rfl
theorem q_fSetP (i : Nat) (fv fa fb : Rho → Rs D) {ρ : Rho} : fSetP i fv fa fb ρ = ((fv ρ).out ρ fun v => match ρ[i]? with
  | some (.ot k (.list ds)) => (fa ρ).out ρ fun a => match a with
    | .int n => match ixN ds.length n with
      | some m => match ds[m]? with
        | some (.list es) => if k.node = true ∧ k.at' m = .r .g then (fb ρ).out ρ fun b => match b with
          | .int n2 => match ixN es.length n2 with
            | some m2 => .nx (ρ.set i (.ot k (.list (ds.set m (.list (es.set m2 v))))))
            | none => .stuck
          | _ => .stuck
          else .stuck
        | _ => .stuck
      | none => .stuck
    | _ => .stuck
  | _ => .stuck) := id rfl
theorem q_fAppC (i : Nat) (fa : Rho → Rs D) (f : Rho → Rs (List D)) {ρ : Rho} : fAppC i fa f ρ = (match ρ[i]? with
  | some (.ot k (.list ds)) => (fa ρ).out ρ fun a => match a with
    | .int n => match ixN ds.length n with
      | some m => match ds[m]? with
        | some (.list es) => if k.node = true ∧ k.at' m = .r .g then (f ρ).out ρ fun as => (mAppend es as).out ρ fun es' => .nx (ρ.set i (.ot k (.list (ds.set m (.list es')))))
          else .stuck
        | _ => .stuck
      | none => .stuck
    | _ => .stuck
  | _ => .stuck) := id rfl
theorem q_fTake (j i : Nat) (fa : Rho → Rs D) {ρ : Rho} : fTake j i fa ρ = (match ρ[i]? with
  | some (.ot k d) => (fa ρ).out ρ fun a => match a with
    | .int n => match kidS d with
      | some ds => match ixN ds.length n with
        | some m => match ds[m]? with
          | some d' => if k.node = true ∧ j ≠ i then .nx ((ρ.set i (.ot (k.put m .x) d)).set j (slW (k.at' m) d')) else .stuck
          | _ => .stuck
        | none => .stuck
      | none => .stuck
    | _ => .stuck
  | _ => .stuck) := id rfl
/-- y = x[n], n written -/
theorem take_ok {j i : Nat} {fa : Rho → Rs D} {ρ : Rho} {k : Sh} {d d' : D} {ds : List D} {n : Nat} (h1 : ρ[i]? = some (.ot k d)) (h2 : fa ρ = .ok (.int (n : Int))) (h3 : kidS d = some ds) (h4 : ds[n]? = some d') (h5 : k.node = true) (h6 : j ≠ i) :
    fTake j i fa ρ = .nx ((ρ.set i (.ot (k.put n .x) d)).set j (slW (k.at' n) d')) := by
  have hn : n < ds.length := (List.getElem?_eq_some_iff.mp h4).1
  have e : ixN ds.length (n : Int) = some n := by rw [ixN_in (by omega) (by omega)]; simp
  rw [q_fTake, h1]
  dsimp only
  rw [h2, q_out1]
  dsimp only
  rw [h3]
  dsimp only
  rw [e]
  dsimp only
  rw [h4]
  dsimp only
  rw [if_pos ⟨h5, h6⟩]
@[simp] theorem q_fUnp (i j1 j2 : Nat) {ρ : Rho} : fUnp i j1 j2 ρ = (match ρ[i]? with
  | some (.ot k (.tuple [d1, d2])) => if k.node = true ∧ (k.put 0 .x).node = true ∧ j1 ≠ i ∧ j2 ≠ i then
      .nx ((((ρ.set i (.ot (k.put 0 .x) (.tuple [d1, d2]))).set j1 (slW (k.at' 0) d1)).set i (.ot ((k.put 0 .x).put 1 .x) (.tuple [d1, d2]))).set j2 (slW ((k.put 0 .x).at' 1) d2)) else .stuck
  | _ => .stuck) := id rfl
/-! dicts: what holds plain data by whole numbers -/
def dictD (m : List (Int × D)) : D := .dict (m.map fun p => (.int p.1, p.2))
def lookI (m : List (Int × D)) (n : Int) : Option D := (m.find? fun p => decide (p.1 = n)).map (·.2)
def putI (m : List (Int × D)) (n : Int) (d : D) : List (Int × D) := if (m.any fun p => decide (p.1 = n)) = true then m.map (fun p => if p.1 = n then (p.1, d) else p) else m ++ [(n, d)]
theorem getK_map (n : Int) : ∀ m : List (Int × D), getK (m.map fun p => (PyData.int p.1, p.2)) n = lookI m n
  | [] => rfl
  | p :: m => by
    have ih := getK_map n m
    unfold getK lookI at *
    rw [List.map_cons, List.find?_cons, List.find?_cons]
    show Option.map _ (match decide (p.1 = n) with | true => _ | false => _) = Option.map _ (match decide (p.1 = n) with | true => _ | false => _)
    by_cases h : p.1 = n
    · rw [decide_eq_true h]; rfl
    · rw [decide_eq_false h]; exact ih
theorem putD_map (n : Int) (d : D) (m : List (Int × D)) : putD (m.map fun p => (PyData.int p.1, p.2)) n d = (putI m n d).map fun p => (PyData.int p.1, p.2) := by
  have e : ((m.map fun p => (PyData.int p.1, p.2)).any fun p => isKey n p.1) = m.any fun p => decide (p.1 = n) := by
    rw [List.any_map]
    rfl
  unfold putD putI
  rw [e]
  split
  · rw [List.map_map, List.map_map]
    apply List.map_congr_left
    intro p _
    show (if decide (p.1 = n) = true then (PyData.int p.1, d) else (PyData.int p.1, p.2)) = _
    by_cases h : p.1 = n
    · simp [h]
    · simp [h]
  · rw [List.map_append]
    rfl
theorem isK_map (m : List (Int × D)) : (m.map fun p => (PyData.int p.1, p.2)).all (fun p => isInt1 p.1) = true := by
  rw [List.all_map]
  simp [isInt1]
def kD (d : D) : Rs D := match d with
  | .dict es => if es.all (fun p => isInt1 p.1) = true then .ok (.dict es) else .stuck
  | _ => .stuck
@[simp] theorem q_kD (m : List (Int × D)) : kD (dictD m) = .ok (dictD m) := by
  show (if _ then _ else _) = _
  rw [if_pos (isK_map m)]
  rfl
@[simp] theorem q_fD (f : Rho → Rs D) {ρ : Rho} : fD f ρ = (f ρ).bind kD := id rfl
@[simp] theorem q_fOd (i : Nat) {ρ : Rho} : fOd i ρ = (match ρ[i]? with
  | some (.od es) => .ok (.dict es)
  | _ => .stuck) := id rfl
theorem q_dget (m : List (Int × D)) (n : Int) : sDGet (dictD m) (.int n) = (match lookI m n with
  | some d => .ok d
  | none => .stuck) := by
  show (match getK _ n with | some d => Rs.ok d | none => .stuck) = _
  rw [getK_map]
@[simp] theorem q_din (m : List (Int × D)) (n : Int) : sDIn (.int n) (dictD m) = .ok (.bool (lookI m n).isSome) := by
  show Rs.ok (PyData.bool (getK _ n).isSome) = _
  rw [getK_map]
@[simp] theorem q_dnin (m : List (Int × D)) (n : Int) : sDNotIn (.int n) (dictD m) = .ok (.bool (!(lookI m n).isSome)) := by
  show Rs.ok (PyData.bool (!(getK _ n).isSome)) = _
  rw [getK_map]
def kM (i : Nat) (ρ : Rho) (d : D) : Out := match d with
  | .dict es => .nx (ρ.set i (.od es))
  | _ => .stuck
@[simp] theorem q_kM (i : Nat) (ρ : Rho) (es : List (D × D)) : kM i ρ (.dict es) = .nx (ρ.set i (.od es)) := id rfl
@[simp] theorem q_fAsgM (i : Nat) (f : Rho → Rs D) {ρ : Rho} : fAsgM i f ρ = (f ρ).out ρ (kM i ρ) := id rfl
theorem q_fDPut (i : Nat) (fv fk : Rho → Rs D) {ρ : Rho} : fDPut i fv fk ρ = ((fv ρ).out ρ fun v => match ρ[i]? with
  | some (.od es) => (fk ρ).out ρ fun k => match k with
    | .int n => if es.length < sizeLine then .nx (ρ.set i (.od (putD es n v))) else .stuck
    | _ => .stuck
  | _ => .stuck) := id rfl
@[simp] theorem q_fRetM (i : Nat) {ρ : Rho} : fRetM i ρ = (match ρ[i]? with
  | some (.od es) => .ret (.dict es)
  | _ => .stuck) := id rfl
def kDisp (k v : D) : Rs D := match k with
  | .int n => .ok (.dict [(.int n, v)])
  | _ => .stuck
@[simp] theorem q_kDisp (n : Int) (v : D) : kDisp (.int n) v = .ok (.dict [(.int n, v)]) := id rfl
@[simp] theorem q_fDisp1 (fk fv : Rho → Rs D) {ρ : Rho} : fDisp1 fk fv ρ = (fk ρ).bind fun k => (fv ρ).bind fun v => kDisp k v := id rfl
def kWalk (g : List (D × D) → List D) (d : D) : Rs (List D) := match d with
  | .dict es => .ok (g es)
  | _ => .stuck
@[simp] theorem q_kWalk (g : List (D × D) → List D) (m : List (Int × D)) : kWalk g (dictD m) = .ok (g (m.map fun p => (.int p.1, p.2))) := id rfl
@[simp] theorem q_dictOf (f : Rho → Rs D) (g : List (D × D) → List D) {ρ : Rho} : dictOf f g ρ = (fD f ρ).bind (kWalk g) := id rfl
@[simp] theorem q_iKeys (f : Rho → Rs D) {ρ : Rho} : iKeys' f ρ = (fD f ρ).bind (kWalk fun es => es.map (·.1)) := id rfl
@[simp] theorem q_iVals (f : Rho → Rs D) {ρ : Rho} : iVals' f ρ = (fD f ρ).bind (kWalk fun es => es.map (·.2)) := id rfl
@[simp] theorem q_iItems (f : Rho → Rs D) {ρ : Rho} : iItems' f ρ = (fD f ρ).bind (kWalk fun es => es.map fun p => .tuple [p.1, p.2]) := id rfl
def kSortK (d : D) : Rs D := match d with
  | .dict es => match keysI es with
    | some ks => .ok (.list ((sortI ks).map PyData.int))
    | none => .stuck
  | _ => .stuck
theorem keysI_map : ∀ m : List (Int × D), keysI (m.map fun p => (PyData.int p.1, p.2)) = some (m.map (·.1))
  | [] => rfl
  | p :: m => by
    show (keysI (m.map fun p => (PyData.int p.1, p.2))).map (p.1 :: ·) = _
    rw [keysI_map m]
    rfl
@[simp] theorem q_kSortK (m : List (Int × D)) : kSortK (dictD m) = .ok (.list ((sortI (m.map (·.1))).map PyData.int)) := by
  show (match keysI _ with | some ks => Rs.ok (PyData.list ((sortI ks).map PyData.int)) | none => .stuck) = _
  rw [keysI_map]
@[simp] theorem q_fSortK (f : Rho → Rs D) {ρ : Rho} : fSortK f ρ = (f ρ).bind kSortK := id rfl
def kMinV (d : D) : Rs D := match d with
  | .dict es => match llD (es.map (·.2)) with
    | some (n :: ls) => .ok (.list ((minLs (n :: ls)).map PyData.int))
    | _ => .stuck
  | _ => .stuck
@[simp] theorem q_fMinV (f : Rho → Rs D) {ρ : Rho} : fMinV f ρ = (f ρ).bind kMinV := id rfl
theorem q_kMinV {m : List (Int × D)} {n : List Int} {ls : List (List Int)} (h : m.map (·.2) = (n :: ls).map fun ns => PyData.list (ns.map PyData.int)) : kMinV (dictD m) = .ok (.list ((minLs (n :: ls)).map PyData.int)) := by
  show (match llD ((m.map fun p => (PyData.int p.1, p.2)).map (·.2)) with | some (n :: ls) => Rs.ok (PyData.list ((minLs (n :: ls)).map PyData.int)) | _ => .stuck) = _
  rw [List.map_map]
  have : (m.map ((fun p => p.2) ∘ fun p => (PyData.int p.1, p.2))) = m.map (·.2) := rfl
  rw [this, h, llD_map]
/-- min over the values of what f gives -/
theorem minVF_ok {f : List D → Rs D} {g : Rho → Rs (List D)} {ρ : Rho} {ds : List D} {m : List (Int × D)} {n : List Int} {ls : List (List Int)} (h1 : g ρ = .ok ds) (h2 : ds.all rowsOK = true) (h3 : f ds = .ok (dictD m)) (h : m.map (·.2) = (n :: ls).map fun ns => PyData.list (ns.map PyData.int)) :
    fMinVF f g ρ = .ok (.list ((minLs (n :: ls)).map PyData.int)) := by
  unfold fMinVF
  rw [h1, Rs.bind_ok, if_pos h2, h3]
  show (if _ then kMinV (dictD m) else Rs.stuck) = _
  rw [if_pos (isK_map m)]
  exact q_kMinV h
@[simp] theorem q_sAny (bs : List Bool) : sAny (.list (bs.map PyData.bool)) = .ok (.bool (bs.any id)) := by
  show (match boolsD _ with | some bs => Rs.ok (PyData.bool (bs.any id)) | none => .stuck) = _
  rw [boolsD_map]
@[simp] theorem q_sLtL (a b : List Int) : sLtL (.list (a.map PyData.int)) (.list (b.map PyData.int)) = .ok (.bool (_root_.HT.lexLt a b)) := by
  show (match intsD _, intsD _ with | some ns, some ms => Rs.ok (PyData.bool (_root_.HT.lexLt ns ms)) | _, _ => .stuck) = _
  rw [intsD_map, intsD_map]
@[simp] theorem q_sMinL (n : List Int) (ls : List (List Int)) : sMinL (.list ((n :: ls).map fun ns => PyData.list (ns.map PyData.int))) = .ok (.list ((minLs (n :: ls)).map PyData.int)) := by
  show (match llD _ with | some (n :: ls) => Rs.ok (PyData.list ((minLs (n :: ls)).map PyData.int)) | _ => .stuck) = _
  rw [llD_map]
theorem q_sortSet {ns : List Int} (h : ns.length ≤ 4000) : sSortSet (.list (ns.map PyData.int)) = .ok (.list ((dedupS (sortI ns)).map PyData.int)) := by
  show (match intsD _ with | some ns => if ns.length + 1 < scanBound then Rs.ok (PyData.list ((dedupS (sortI ns)).map PyData.int)) else .stuck | none => .stuck) = _
  rw [intsD_map]
  have : ns.length + 1 < scanBound := by unfold scanBound; omega
  exact if_pos this
@[simp] theorem q_fCh (o o' : D → D → Rs D) (fa fb fc : Rho → Rs D) {ρ : Rho} : fCh o o' fa fb fc ρ = ((fa ρ).bind fun x => (fb ρ).bind fun y => (o x y).bind fun z => match z with
  | .bool true => (fc ρ).bind fun u => o' y u
  | .bool false => .ok (.bool false)
  | _ => .stuck) := id rfl
@[simp] theorem q_fCallKB (f : List D → Rs D) (g : Rho → Rs (List D)) (h : Rho → Rs D) {ρ : Rho} : fCallKB f g h ρ = ((g ρ).bind fun ds => (h ρ).bind fun d => noE (f (ds ++ [d]))) := id rfl
@[simp] theorem q_fRet2 (i : Nat) (f : Rho → Rs D) {ρ : Rho} : fRet2 i f ρ = ((f ρ).out ρ fun d => match ρ[i]? with
  | some (.ow ds) => .ret (.tuple [d, .list ds])
  | _ => .stuck) := id rfl
/-- a dict comprehension -/
theorem dcomp_map {α : Type} {p : α → D} {tg : Tg} {ek e : Rho → Rs D} {ρ : Rho} (φ : α → Int × D) : ∀ (l : List α), (∀ x ∈ l, ∃ ρ1, tg (p x) ρ = .ok ρ1 ∧ ek ρ1 = .ok (.int (φ x).1) ∧ e ρ1 = .ok (φ x).2) → compD tg fYes ek e ρ (l.map p) = .ok (l.map φ)
  | [], _ => rfl
  | x :: l, h => by
    obtain ⟨ρ1, e1, e2, e3⟩ := h x List.mem_cons_self
    have := dcomp_map φ l fun y hy => h y (List.mem_cons_of_mem _ hy)
    simp only [List.map_cons, compD, e1, fYes, e2, e3, this, Rs.bind_ok]
theorem putAll_map : ∀ (ps m : List (Int × D)), putAll (m.map fun p => (PyData.int p.1, p.2)) ps = ((ps.foldl (fun a p => putI a p.1 p.2) m).map fun p => (PyData.int p.1, p.2))
  | [], m => rfl
  | p :: ps, m => by
    show putAll (putD _ p.1 p.2) ps = _
    rw [putD_map, putAll_map ps]
    rfl
theorem dcomp_ok {vs : List Nat} {f : Rho → Rs (List D)} {tg : Tg} {ek e : Rho → Rs D} {ρ : Rho} {ds : List D} {r : List (Int × D)} (h1 : f ρ = .ok ds) (h2 : ds.length ≤ 1000) (h3 : compD tg fYes ek e (wipeR ρ vs) ds = .ok r) : fDComp vs f tg fYes ek e ρ = .ok (dictD (r.foldl (fun a p => putI a p.1 p.2) [])) := by
  unfold fDComp
  rw [h1, Rs.bind_ok, if_pos (le_size h2), h3]
  show Rs.ok (PyData.dict (putAll [] r)) = _
  rw [show ([] : List (D × D)) = ([] : List (Int × D)).map fun p => (PyData.int p.1, p.2) from rfl, putAll_map]
  rfl
end Ct

namespace Lw
abbrev D := Ct.D
open PySem PySem.Spec PyProof.Rows L2 Ct
/-- check_periods(periods, cap) -/
def b_check_periods_1 : Rho → Out := (fIf (fOr (toB (fBin sLt (fV 3) (fC (.int 0)))) (fOr (toB (fBin sLt (fV 4) (fC (.int 0)))) (toB (fBin sLt (fV 5) (fC (.int 1))))))
  (fRaise 0 (aCons (fV 2) aNil))
  fSkip)
def b_check_periods_2 : Rho → Out := (fIf (toB (fBin sGt (fV 4) (fV 1)))
  (fRaise 1 (aCons (fV 2) aNil))
  fSkip)
def g_check_periods : Rho → Out := (fSeq (fFor (iEnu (fV 0)) (tgT [(tgN 2), (tgT [(tgN 3), (tgN 4), (tgN 5)])])
  b_check_periods_1)
  (fIf (toB (fUn sNotN (fV 1)))
  (fFor (iEnu (fV 0)) (tgT [(tgN 2), (tgT [(tgN 3), (tgN 4), (tgN 5)])])
  b_check_periods_2)
  fSkip))
def f_check_periods : List D → Rs D := runB false 2 6 g_check_periods
theorem u_check_periods (y0 y1 : D) : f_check_periods [y0, y1] = (g_check_periods [.va y0, .va y1, .un, .un, .un, .un]).res false := runB_eq rfl
/-- _law_cell(_law_script, _law_k) -/
def g_law_cell : Rho → Out := (fSeq (fIf (toB (fBin sLt (fV 1) (fCl (o1 sLen) (aCons (fV 0) aNil))))
  (fRet (fCl (o1 sAbs) (aCons (fBin sIx (fV 0) (fV 1)) aNil)))
  fSkip)
  (fRet (fC (.int 0))))
def f_law_cell : List D → Rs D := runB false 2 2 g_law_cell
theorem u_law_cell (y0 y1 : D) : f_law_cell [y0, y1] = (g_law_cell [.va y0, .va y1]).res false := runB_eq rfl
/-- _law_period(_law_number_here, _law_scale) -/
def g_law_period : Rho → Out := (fSeq (fIf (toB (fBin sEq (fV 1) (fC (.int 5))))
  (fSeq (fAsg 2 (fBin sMod (fCl (o1 sInt) (aCons (fV 0) aNil)) (fC (.int (10 ^ 60)))))
  (fSeq (fAsg 3 (fBin sMod (fCl (o1 sInt) (aCons (fBin sAdd (fBin sDiv (fV 0) (fC (.int (10 ^ 30)))) (fBin sMul (fV 2) (fV 2))) aNil)) (fC (.int (10 ^ 60)))))
  (fSeq (fAsg 4 (fBin sAdd (fC (.int 1)) (fBin sMod (fCl (o1 sInt) (aCons (fBin sAdd (fBin sDiv (fBin sDiv (fV 0) (fC (.int (10 ^ 45)))) (fC (.int (10 ^ 45)))) (fBin sMul (fC (.int 7919)) (fV 2))) aNil)) (fC (.int (10 ^ 30))))))
  (fRet (fTup (aCons (fBin sMod (fV 2) (fC (.int (10 ^ 30)))) (aCons (fV 3) (aCons (fV 4) aNil))))))))
  fSkip)
  (fSeq (fAsg 5 (fLst (aCons (fTup (aCons (fC (.int 4)) (aCons (fC (.int 8)) (aCons (fC (.int 2)) aNil)))) (aCons (fTup (aCons (fC (.int 10)) (aCons (fC (.int 40)) (aCons (fC (.int 4)) aNil)))) (aCons (fTup (aCons (fC (.int 61)) (aCons (fC (.int 301)) (aCons (fC (.int 9)) aNil)))) (aCons (fTup (aCons (fC (.int (10 ^ 6))) (aCons (fC (.int (10 ^ 9))) (aCons (fC (.int 1000)) aNil)))) (aCons (fTup (aCons (fC (.int 7)) (aCons (fC (.int 30)) (aCons (fC (.int 3)) aNil)))) aNil)))))))
  (fSeq (fAsgT (tgT [(tgN 6), (tgN 7), (tgN 8)]) (fBin sIx (fV 5) (fV 1)))
  (fSeq (fAsg 9 (fBin sMod (fCl (o1 sInt) (aCons (fV 0) aNil)) (fV 6)))
  (fSeq (fAsg 3 (fBin sMod (fCl (o1 sInt) (aCons (fBin sDiv (fV 0) (fV 6)) aNil)) (fV 7)))
  (fSeq (fAsg 4 (fBin sAdd (fC (.int 1)) (fBin sMod (fCl (o1 sInt) (aCons (fBin sDiv (fV 0) (fBin sMul (fV 6) (fV 7))) aNil)) (fV 8))))
  (fSeq (fAsg 10 (fBin sMod (fCl (o1 sInt) (aCons (fBin sDiv (fV 0) (fBin sMul (fBin sMul (fV 6) (fV 7)) (fV 8))) aNil)) (fC (.int 6))))
  (fSeq (fIf (toB (fBin sEq (fV 10) (fC (.int 0))))
  (fAsg 9 (fC (.int 0)))
  fSkip)
  (fSeq (fIf (toB (fBin sEq (fV 10) (fC (.int 1))))
  (fAsg 3 (fC (.int 0)))
  fSkip)
  (fSeq (fIf (toB (fBin sEq (fV 1) (fC (.int 4))))
  (fRet (fTup (aCons (fBin sMul (fV 9) (fC (.int (10 ^ 12)))) (aCons (fBin sMul (fV 3) (fC (.int (10 ^ 21)))) (aCons (fBin sMul (fV 4) (fC (.int (10 ^ 9)))) aNil)))))
  fSkip)
  (fRet (fTup (aCons (fV 9) (aCons (fV 3) (aCons (fV 4) aNil)))))))))))))))
def f_law_period : List D → Rs D := runB false 2 11 g_law_period
theorem u_law_period (y0 y1 : D) : f_law_period [y0, y1] = (g_law_period [.va y0, .va y1, .un, .un, .un, .un, .un, .un, .un, .un, .un]).res false := runB_eq rfl
/-- _law_spoiled_row(_law_row, _law_way) -/
def g_law_spoiled_row : Rho → Out := (fSeq (fAsgT (tgT [(tgN 2), (tgN 3), (tgN 4)]) (fV 0))
  (fSeq (fIf (toB (fBin sEq (fV 1) (fC (.int 0))))
  (fRet (fTup (aCons (fBin sSub (fUn sNeg (fC (.int 1))) (fV 2)) (aCons (fV 3) (aCons (fV 4) aNil)))))
  fSkip)
  (fSeq (fIf (toB (fBin sEq (fV 1) (fC (.int 1))))
  (fRet (fTup (aCons (fV 2) (aCons (fBin sSub (fUn sNeg (fC (.int 1))) (fV 3)) (aCons (fV 4) aNil)))))
  fSkip)
  (fSeq (fIf (toB (fBin sEq (fV 1) (fC (.int 2))))
  (fRet (fTup (aCons (fV 2) (aCons (fV 3) (aCons (fC (.int 0)) aNil)))))
  fSkip)
  (fSeq (fIf (toB (fBin sEq (fV 1) (fC (.int 3))))
  (fRet (fTup (aCons (fV 2) (aCons (fV 3) (aCons (fUn sNeg (fV 4)) aNil)))))
  fSkip)
  (fRet (fV 0)))))))
def f_law_spoiled_row : List D → Rs D := runB false 2 5 g_law_spoiled_row
theorem u_law_spoiled_row (y0 y1 : D) : f_law_spoiled_row [y0, y1] = (g_law_spoiled_row [.va y0, .va y1, .un, .un, .un]).res false := runB_eq rfl
/-- _law_number(_law_script, _law_k) -/
def g_law_number : Rho → Out := (fSeq (fAsg 2 (fCall f_law_cell (aCons (fV 0) (aCons (fV 1) aNil))))
  (fSeq (fIf (toB (fBin sGe (fV 2) (fC (.int (10 ^ 18)))))
  (fRet (fV 2))
  fSkip)
  (fSeq (fAsg 3 (fBin sMod (fCl (o1 sInt) (aCons (fBin sAdd (fBin sAdd (fBin sMul (fV 2) (fC (.int 48271))) (fBin sMul (fC (.int 7)) (fV 1))) (fC (.int 11))) aNil)) (fC (.int 2147483647))))
  (fSeq (fAsg 4 (fBin sMod (fCl (o1 sInt) (aCons (fBin sAdd (fBin sAdd (fBin sMul (fV 3) (fC (.int 69621))) (fBin sMul (fC (.int 13)) (fV 1))) (fC (.int 5))) aNil)) (fC (.int 2147483629))))
  (fRet (fBin sAdd (fV 3) (fBin sMul (fC (.int 2147483647)) (fV 4))))))))
def f_law_number : List D → Rs D := runB false 2 5 g_law_number
theorem u_law_number (y0 y1 : D) : f_law_number [y0, y1] = (g_law_number [.va y0, .va y1, .un, .un, .un]).res false := runB_eq rfl
/-- _law_shape(_law_script, _law_most) -/
def g_law_shape : Rho → Out := (fSeq (fAsg 2 (fCall f_law_cell (aCons (fV 0) (aCons (fC (.int 0)) aNil))))
  (fSeq (fAsg 3 (fBin sDiv (fV 2) (fC (.int 6))))
  (fSeq (fIf (fAnd (toB (fBin sEq (fBin sMod (fCl (o1 sInt) (aCons (fV 3) aNil)) (fC (.int 4))) (fC (.int 3)))) (toB (fBin sGt (fCl (o1 sLen) (aCons (fV 0) aNil)) (fC (.int 8)))))
  (fSeq (fAsg 4 (fCl (o2 sMin2) (aCons (fBin sSub (fCl (o1 sLen) (aCons (fV 0) aNil)) (fC (.int 4))) (aCons (fV 1) aNil))))
  (fSeq (fAsg 5 (fBin sAdd (fC (.int 1)) (fBin sMod (fCl (o1 sInt) (aCons (fBin sDiv (fV 3) (fC (.int 4))) aNil)) (fV 4))))
  (fRet (fTup (aCons (fBin sMod (fCl (o1 sInt) (aCons (fV 2) aNil)) (fC (.int 6))) (aCons (fV 5) (aCons (fBin sSub (fV 4) (fV 5)) aNil)))))))
  fSkip)
  (fRet (fTup (aCons (fBin sMod (fCl (o1 sInt) (aCons (fV 2) aNil)) (fC (.int 6))) (aCons (fBin sAdd (fC (.int 1)) (fBin sMod (fCl (o1 sInt) (aCons (fBin sDiv (fV 3) (fC (.int 4))) aNil)) (fC (.int 6)))) (aCons (fBin sMod (fCl (o1 sInt) (aCons (fBin sDiv (fV 3) (fC (.int 24))) aNil)) (fC (.int 4))) aNil))))))))
def f_law_shape : List D → Rs D := runB false 2 6 g_law_shape
theorem u_law_shape (y0 y1 : D) : f_law_shape [y0, y1] = (g_law_shape [.va y0, .va y1, .un, .un, .un, .un]).res false := runB_eq rfl
/-- _law_spoiled(_law_rows, _law_number_here, _law_alone) -/
def b_law_spoiled_k01_1 : Rho → Out := (fSeq (fIf (toB (fBin sGt (fV 4) (fC (.int 0))))
  (fSet 3 (fCall f_law_spoiled_row (aCons (fBin sIx (fV 0) (fV 6)) (aCons (fBin sMod (fCl (o1 sInt) (aCons (fV 4) aNil)) (fC (.int 9))) aNil))) (fV 6))
  fSkip)
  (fAsg 4 (fBin sDiv (fV 4) (fC (.int 9)))))
def g_law_spoiled_k01 : Rho → Out := (fSeq (fAsgO 3 (fUn sList (fV 0)))
  (fSeq (fAsg 4 (fV 1))
  (fSeq (fIf (fAnd (toT (fV 2)) (toB (fBin sGt (fCl (o1 sLen) (aCons (fV 0) aNil)) (fC (.int 0)))))
  (fSeq (fAsg 5 (fBin sMod (fCl (o1 sInt) (aCons (fV 4) aNil)) (fCl (o1 sLen) (aCons (fV 0) aNil))))
  (fSeq (fSet 3 (fCall f_law_spoiled_row (aCons (fBin sIx (fV 0) (fV 5)) (aCons (fBin sMod (fCl (o1 sInt) (aCons (fBin sDiv (fV 4) (fCl (o1 sLen) (aCons (fV 0) aNil))) aNil)) (fC (.int 4))) aNil))) (fV 5))
  (fFz 3 (fRet (fV 3)))))
  fSkip)
  (fSeq (fFor (iRg1 (aCons (fCl (o1 sLen) (aCons (fV 0) aNil)) aNil)) (tgN 6)
  b_law_spoiled_k01_1)
  (fFz 3 (fRet (fV 3)))))))
def f_law_spoiled_k01 : List D → Rs D := runB false 3 7 g_law_spoiled_k01
theorem u_law_spoiled_k01 (y0 y1 y2 : D) : f_law_spoiled_k01 [y0, y1, y2] = (g_law_spoiled_k01 [.va y0, .va y1, .va y2, .un, .un, .un, .un]).res false := runB_eq rfl
/-- _law_periods(_law_script, _law_start, _law_count, _law_scale) -/
def c_law_periods_1 : Rho → Rs D := (fComp [4] (iRg1 (aCons (fV 2) aNil)) (tgN 4) fYes (fCall f_law_period (aCons (fCall f_law_number (aCons (fV 0) (aCons (fBin sAdd (fV 1) (fV 4)) aNil))) (aCons (fV 3) aNil))))
def g_law_periods : Rho → Out := (fRet c_law_periods_1)
def f_law_periods : List D → Rs D := runB true 4 5 g_law_periods
theorem u_law_periods (y0 y1 y2 y3 : D) : f_law_periods [y0, y1, y2, y3] = (g_law_periods [.va y0, .va y1, .va y2, .va y3, .un]).res true := runB_eq rfl
/-- _law_cap(_law_script, _law_scale) -/
def g_law_cap : Rho → Out := (fSeq (fAsg 2 (fCall f_law_number (aCons (fV 0) (aCons (fC (.int 1)) aNil))))
  (fSeq (fIf (toB (fBin sEq (fBin sMod (fCl (o1 sInt) (aCons (fV 2) aNil)) (fC (.int 3))) (fC (.int 0))))
  (fRet (fC .none))
  fSkip)
  (fSeq (fAsg 3 (fLst (aCons (fC (.int 9)) (aCons (fC (.int 45)) (aCons (fC (.int 330)) (aCons (fC (.int (10 ^ 9))) (aCons (fC (.int 33)) (aCons (fC (.int (10 ^ 60))) aNil))))))))
  (fSeq (fAsg 4 (fBin sMod (fCl (o1 sInt) (aCons (fBin sDiv (fV 2) (fC (.int 3))) aNil)) (fBin sIx (fV 3) (fV 1))))
  (fSeq (fIf (toB (fBin sEq (fV 1) (fC (.int 4))))
  (fAsg 4 (fBin sMul (fV 4) (fC (.int (10 ^ 21)))))
  fSkip)
  (fRet (fV 4)))))))
def f_law_cap : List D → Rs D := runB false 2 5 g_law_cap
theorem u_law_cap (y0 y1 : D) : f_law_cap [y0, y1] = (g_law_cap [.va y0, .va y1, .un, .un, .un]).res false := runB_eq rfl
/-- _law_same(_law_actual, _law_due_here) -/
def g_law_same (rec : List D → Rs D) : Rho → Out := (fSeq (fIf (toB (fUn sIsN (fV 1)))
  (fRet (fUn sIsN (fV 0)))
  fSkip)
  (fSeq (fIf (toB (fUn (sIsT "bool") (fV 1)))
  (fRet (fAndV (fUn (sIsT "bool") (fV 0)) (fBin sEq (fV 0) (fV 1))))
  fSkip)
  (fSeq (fIf (toB (fUn (sIsT "int") (fV 1)))
  (fRet (fAndV (fUn (sIsT "int") (fV 0)) (fAndV (fNotV (fUn (sIsT "bool") (fV 0))) (fBin sEq (fV 0) (fV 1)))))
  fSkip)
  (fSeq (fIf (fAnd (toB (fUn (sIsT "list") (fV 1))) (fNot (toB (fUn (sIsT "list") (fV 0)))))
  (fRet (fC (.bool false)))
  fSkip)
  (fSeq (fIf (fAnd (toB (fUn (sIsT "tuple") (fV 1))) (fNot (toB (fUn (sIsT "tuple") (fV 0)))))
  (fRet (fC (.bool false)))
  fSkip)
  (fSeq (fIf (toB (fBin sNe (fCl (o1 sLen) (aCons (fV 0) aNil)) (fCl (o1 sLen) (aCons (fV 1) aNil))))
  (fRet (fC (.bool false)))
  fSkip)
  (fSeq (fFor (iRg1 (aCons (fCl (o1 sLen) (aCons (fV 1) aNil)) aNil)) (tgN 2)
  (fIf (fNot (toB (fCall rec (aCons (fBin sIx (fV 0) (fV 2)) (aCons (fBin sIx (fV 1) (fV 2)) aNil)))))
  (fRet (fC (.bool false)))
  fSkip))
  (fRet (fC (.bool true))))))))))
def h_law_same : Nat → List D → Rs D
  | 0 => fun _ => .stuck
  | n + 1 => runB false 2 3 (g_law_same (h_law_same n))
def f_law_same : List D → Rs D := h_law_same 9
theorem u_law_same (n : Nat) (y0 y1 : D) : h_law_same (n + 1) [y0, y1] = (g_law_same (h_law_same n) [.va y0, .va y1, .un]).res false := runB_eq rfl
/-- total_demand(periods) -/
def c_total_demand_1 : Rho → Rs D := (fComp [1, 2, 3] (iLst (fV 0)) (tgT [(tgN 1), (tgN 2), (tgN 3)]) fYes (fV 1))
def g_total_demand : Rho → Out := (fSeq (fDrop (fCallD f_check_periods .none (aCons (fV 0) aNil)))
  (fRet (fCl (o1 sSum) (aCons c_total_demand_1 aNil))))
def f_total_demand : List D → Rs D := runB false 1 4 g_total_demand
theorem u_total_demand (y0 : D) : f_total_demand [y0] = (g_total_demand [.va y0, .un, .un, .un]).res false := runB_eq rfl
/-- _law_integers(_law_actual) -/
def b_law_integers_1 : Rho → Out := (fIf (fOr (fNot (toB (fUn (sIsT "int") (fV 1)))) (toB (fUn (sIsT "bool") (fV 1))))
  (fRet (fC (.bool false)))
  fSkip)
def g_law_integers : Rho → Out := (fSeq (fIf (fNot (toB (fUn (sIsT "list") (fV 0))))
  (fRet (fC (.bool false)))
  fSkip)
  (fSeq (fFor (iLst (fV 0)) (tgN 1)
  b_law_integers_1)
  (fRet (fC (.bool true)))))
def f_law_integers : List D → Rs D := runB false 1 2 g_law_integers
theorem u_law_integers (y0 : D) : f_law_integers [y0] = (g_law_integers [.va y0, .un]).res false := runB_eq rfl
/-- _law_stock(_law_rows, _law_number_here) -/
def c_law_stock_1 : Rho → Rs D := (fComp [4, 5, 6] (iLst (fV 0)) (tgT [(tgN 4), (tgN 5), (tgN 6)]) fYes (fV 4))
def c_law_stock_2 : Rho → Rs D := (fComp [4, 5, 6] (iLst (fSlice (fV 0) (fPart none) (fPart (some (fBin sMod (fCl (o1 sInt) (aCons (fV 3) aNil)) (fBin sAdd (fCl (o1 sLen) (aCons (fV 0) aNil)) (fC (.int 1)))))))) (tgT [(tgN 4), (tgN 5), (tgN 6)]) fYes (fV 4))
def g_law_stock : Rho → Out := (fSeq (fAsg 2 (fBin sMod (fCl (o1 sInt) (aCons (fV 1) aNil)) (fC (.int 8))))
  (fSeq (fAsg 3 (fBin sDiv (fV 1) (fC (.int 8))))
  (fSeq (fAsg 7 (fCl (o1 sSum) (aCons c_law_stock_1 aNil)))
  (fSeq (fIf (toB (fBin sEq (fV 2) (fC (.int 0))))
  (fRet (fC (.int 0)))
  fSkip)
  (fSeq (fIf (toB (fBin sEq (fV 2) (fC (.int 1))))
  (fRet (fBin sMod (fCl (o1 sInt) (aCons (fV 3) aNil)) (fC (.int 7))))
  fSkip)
  (fSeq (fIf (toB (fBin sEq (fV 2) (fC (.int 2))))
  (fRet (fBin sAdd (fV 7) (fBin sMod (fCl (o1 sInt) (aCons (fV 3) aNil)) (fC (.int 1000)))))
  fSkip)
  (fSeq (fIf (toB (fBin sEq (fV 2) (fC (.int 3))))
  (fRet (fBin sMod (fCl (o1 sInt) (aCons (fV 3) aNil)) (fBin sAdd (fV 7) (fC (.int 1)))))
  fSkip)
  (fSeq (fAsg 8 (fCl (o1 sSum) (aCons c_law_stock_2 aNil)))
  (fSeq (fIf (toB (fBin sEq (fV 2) (fC (.int 4))))
  (fRet (fBin sAdd (fV 8) (fC (.int 1))))
  fSkip)
  (fSeq (fIf (toB (fBin sEq (fV 2) (fC (.int 5))))
  (fRet (fCl (o2 sMax2) (aCons (fC (.int 0)) (aCons (fBin sSub (fV 8) (fC (.int 1))) aNil))))
  fSkip)
  (fRet (fV 8))))))))))))
def f_law_stock : List D → Rs D := runB false 2 9 g_law_stock
theorem u_law_stock (y0 y1 : D) : f_law_stock [y0, y1] = (g_law_stock [.va y0, .va y1, .un, .un, .un, .un, .un, .un, .un]).res false := runB_eq rfl
/-- net_periods(periods, stock) -/
def b_net_periods_1 : Rho → Out := (fSeq (fAsg 6 (fCl (o2 sMin2) (aCons (fV 3) (aCons (fV 1) aNil))))
  (fSeq (fMut 2 (aCons (fTup (aCons (fBin sSub (fV 3) (fV 6)) (aCons (fV 4) (aCons (fV 5) aNil)))) aNil) mAppend)
  (fAug 1 sSub (fV 6))))
def g_net_periods : Rho → Out := (fSeq (fDrop (fCallD f_check_periods .none (aCons (fV 0) aNil)))
  (fSeq (fAsgO 2 (fLst aNil))
  (fSeq (fFor (iLst (fV 0)) (tgT [(tgN 3), (tgN 4), (tgN 5)])
  b_net_periods_1)
  (fRetV 2))))
def f_net_periods : List D → Rs D := runB true 2 7 g_net_periods
theorem u_net_periods (y0 y1 : D) : f_net_periods [y0, y1] = (g_net_periods [.va y0, .va y1, .un, .un, .un, .un, .un]).res true := runB_eq rfl
/-- carry_cost(periods, stock) -/
def b_carry_cost_1 : Rho → Out := (fSeq (fAug 1 sSub (fCl (o2 sMin2) (aCons (fV 3) (aCons (fV 1) aNil))))
  (fAug 2 sAddI (fBin sMul (fV 5) (fV 1))))
def g_carry_cost : Rho → Out := (fSeq (fDrop (fCallD f_check_periods .none (aCons (fV 0) aNil)))
  (fSeq (fAsg 2 (fC (.int 0)))
  (fSeq (fFor (iLst (fV 0)) (tgT [(tgN 3), (tgN 4), (tgN 5)])
  b_carry_cost_1)
  (fRet (fV 2)))))
def f_carry_cost : List D → Rs D := runB false 2 6 g_carry_cost
theorem u_carry_cost (y0 y1 : D) : f_carry_cost [y0, y1] = (g_carry_cost [.va y0, .va y1, .un, .un, .un, .un]).res false := runB_eq rfl
/-- _law_orders(_law_periods_here, _law_count, _law_number_here) -/
def c_law_orders_1 : Rho → Rs D := (fComp [3, 4, 5] (iLst (fV 0)) (tgT [(tgN 3), (tgN 4), (tgN 5)]) fYes (fV 3))
def c_law_orders_2 : Rho → Rs D := (fComp [3, 4, 5] (iLst (fSlice (fV 0) (fPart none) (fPart (some (fBin sAdd (fV 10) (fV 13)))))) (tgT [(tgN 3), (tgN 4), (tgN 5)]) fYes (fV 3))
def b_law_orders_1 : Rho → Out := (fSeq (fAsg 11 (fCl (o2 sMax2) (aCons (fC (.int 0)) (aCons (fBin sSub (fBin sIx (fBin sIx (fV 0) (fV 10)) (fC (.int 0))) (fV 8)) aNil))))
  (fSeq (fAsg 12 (fBin sSub (fV 6) (fCl (o1 sSum) (aCons (fB 7) aNil))))
  (fSeq (fAsg 13 (fBin sMod (fCl (o1 sInt) (aCons (fV 9) aNil)) (fC (.int 6))))
  (fSeq (fAsg 9 (fBin sDiv (fV 9) (fC (.int 6))))
  (fSeq (fAsg 14 (fV 11))
  (fSeq (fIf (toB (fBin sEq (fV 13) (fC (.int 1))))
  (fAsg 14 (fBin sAdd (fV 11) (fBin sMod (fCl (o1 sInt) (aCons (fV 9) aNil)) (fBin sAdd (fV 11) (fC (.int 3))))))
  fSkip)
  (fSeq (fIf (toB (fBin sGt (fV 13) (fC (.int 1))))
  (fSeq (fAsg 15 (fCl (o1 sSum) (aCons c_law_orders_2 aNil)))
  (fAsg 14 (fCl (o2 sMax2) (aCons (fV 11) (aCons (fBin sSub (fV 15) (fCl (o1 sSum) (aCons (fB 7) aNil))) aNil)))))
  fSkip)
  (fSeq (fAsg 14 (fCl (o2 sMin2) (aCons (fV 14) (aCons (fV 12) aNil))))
  (fSeq (fMut 7 (aCons (fV 14) aNil) mAppend)
  (fAsg 8 (fBin sSub (fBin sAdd (fV 8) (fV 14)) (fBin sIx (fBin sIx (fV 0) (fV 10)) (fC (.int 0))))))))))))))
def g_law_orders : Rho → Out := (fSeq (fAsg 6 (fCl (o1 sSum) (aCons c_law_orders_1 aNil)))
  (fSeq (fAsgO 7 (fLst aNil))
  (fSeq (fAsg 8 (fC (.int 0)))
  (fSeq (fAsg 9 (fV 2))
  (fSeq (fFor (iRg1 (aCons (fV 1) aNil)) (tgN 10)
  b_law_orders_1)
  (fRetV 7))))))
def f_law_orders : List D → Rs D := runB true 3 16 g_law_orders
theorem u_law_orders (y0 y1 y2 : D) : f_law_orders [y0, y1, y2] = (g_law_orders [.va y0, .va y1, .va y2, .un, .un, .un, .un, .un, .un, .un, .un, .un, .un, .un, .un, .un]).res true := runB_eq rfl
/-- stocks(periods, orders) -/
def b_stocks_1 : Rho → Out := (fSeq (fIf (toB (fBin sLt (fV 5) (fC (.int 0))))
  (fRaise 4 (aCons (fV 4) aNil))
  fSkip)
  (fSeq (fAug 3 sAddI (fBin sSub (fV 5) (fBin sIx (fBin sIx (fV 0) (fV 4)) (fC (.int 0)))))
  (fSeq (fIf (toB (fBin sLt (fV 3) (fC (.int 0))))
  (fRaise 5 (aCons (fV 4) (aCons (fUn sNeg (fV 3)) aNil)))
  fSkip)
  (fMut 2 (aCons (fV 3) aNil) mAppend))))
def g_stocks : Rho → Out := (fSeq (fDrop (fCallD f_check_periods .none (aCons (fV 0) aNil)))
  (fSeq (fIf (toB (fBin sGt (fCl (o1 sLen) (aCons (fV 1) aNil)) (fCl (o1 sLen) (aCons (fV 0) aNil))))
  (fRaise 3 aNil)
  fSkip)
  (fSeq (fAsgO 2 (fLst aNil))
  (fSeq (fAsg 3 (fC (.int 0)))
  (fSeq (fFor (iEnu (fV 1)) (tgT [(tgN 4), (tgN 5)])
  b_stocks_1)
  (fRetV 2))))))
def f_stocks : List D → Rs D := runB true 2 6 g_stocks
theorem u_stocks (y0 y1 : D) : f_stocks [y0, y1] = (g_stocks [.va y0, .va y1, .un, .un, .un, .un]).res true := runB_eq rfl
/-- plan_cost(periods, orders) -/
def b_plan_cost_1 : Rho → Out := (fSeq (fAsgT (tgT [(tgN 5), (tgN 6), (tgN 7)]) (fBin sIx (fV 0) (fV 3)))
  (fSeq (fIf (toB (fBin sGt (fBin sIx (fV 1) (fV 3)) (fC (.int 0))))
  (fAug 2 sAddI (fV 6))
  fSkip)
  (fAug 2 sAddI (fBin sMul (fV 7) (fV 4)))))
def g_plan_cost : Rho → Out := (fSeq (fAsg 2 (fC (.int 0)))
  (fSeq (fFor (iEnu (fCall f_stocks (aCons (fV 0) (aCons (fV 1) aNil)))) (tgT [(tgN 3), (tgN 4)])
  b_plan_cost_1)
  (fRet (fV 2))))
def f_plan_cost : List D → Rs D := runB false 2 8 g_plan_cost
theorem u_plan_cost (y0 y1 : D) : f_plan_cost [y0, y1] = (g_plan_cost [.va y0, .va y1, .un, .un, .un, .un, .un, .un]).res false := runB_eq rfl
/-- is_lean(periods, orders) -/
def b_is_lean_1 : Rho → Out := (fSeq (fIf (fAnd (toB (fBin sGt (fBin sIx (fV 1) (fV 3)) (fC (.int 0)))) (toB (fBin sGt (fV 2) (fC (.int 0)))))
  (fRet (fC (.bool false)))
  fSkip)
  (fAsg 2 (fV 4)))
def g_is_lean : Rho → Out := (fSeq (fAsg 2 (fC (.int 0)))
  (fSeq (fFor (iEnu (fCall f_stocks (aCons (fV 0) (aCons (fV 1) aNil)))) (tgT [(tgN 3), (tgN 4)])
  b_is_lean_1)
  (fRet (fC (.bool true)))))
def f_is_lean : List D → Rs D := runB false 2 5 g_is_lean
theorem u_is_lean (y0 y1 : D) : f_is_lean [y0, y1] = (g_is_lean [.va y0, .va y1, .un, .un, .un]).res false := runB_eq rfl
/-- last_costs(periods, costs, count, ending) -/
def b_last_costs_1 : Rho → Out := (fSeq (fAsgT (tgT [(tgN 8), (tgN 9), (tgN 10)]) (fBin sIx (fV 0) (fV 7)))
  (fSeq (fAug 6 sAddI (fBin sMul (fV 10) (fV 5)))
  (fSeq (fAug 5 sAddI (fV 8))
  (fSet 4 (fBin sAdd (fBin sAdd (fBin sIx (fV 1) (fV 7)) (fV 9)) (fV 6)) (fV 7)))))
def g_last_costs : Rho → Out := (fSeq (fAsgO 4 (fBin sRep (fLst (aCons (fC (.int 0)) aNil)) (fV 2)))
  (fSeq (fAsg 5 (fV 3))
  (fSeq (fAsg 6 (fC (.int 0)))
  (fSeq (fFor (iRvR (fV 2)) (tgN 7)
  b_last_costs_1)
  (fFz 4 (fRet (fV 4)))))))
def f_last_costs : List D → Rs D := runB false 4 11 g_last_costs
theorem u_last_costs (y0 y1 y2 y3 : D) : f_last_costs [y0, y1, y2, y3] = (g_last_costs [.va y0, .va y1, .va y2, .va y3, .un, .un, .un, .un, .un, .un, .un]).res false := runB_eq rfl
/-- _law_costs(_law_periods_here) -/
def c_law_costs_1 : Rho → Rs D := (fComp [1] (iRg1 (aCons (fCl (o1 sLen) (aCons (fV 0) aNil)) aNil)) (tgN 1) fYes (fC .none))
def b_law_costs_1 : Rho → Out := (fSeq (fAsg 4 (fBin sAdd (fV 4) (fBin sMul (fV 5) (fBin sIx (fBin sIx (fV 0) (fV 6)) (fC (.int 0))))))
  (fSeq (fAsg 5 (fBin sAdd (fV 5) (fBin sIx (fBin sIx (fV 0) (fV 6)) (fC (.int 2)))))
  (fIf (fOr (toB (fUn sIsN (fBin sIx (fB 2) (fBin sAdd (fV 6) (fC (.int 1)))))) (toB (fBin sLt (fV 4) (fBin sIx (fB 2) (fBin sAdd (fV 6) (fC (.int 1)))))))
  (fSet 2 (fV 4) (fBin sAdd (fV 6) (fC (.int 1))))
  fSkip)))
def b_law_costs_2 : Rho → Out := (fSeq (fIf (fAnd (toB (fBin sGt (fV 3) (fC (.int 0)))) (toB (fBin sEq (fBin sIx (fBin sIx (fV 0) (fBin sSub (fV 3) (fC (.int 1)))) (fC (.int 0))) (fC (.int 0)))))
  (fSet 2 (fCl (o2 sMin2) (aCons (fBin sIx (fB 2) (fV 3)) (aCons (fBin sIx (fB 2) (fBin sSub (fV 3) (fC (.int 1)))) aNil))) (fV 3))
  fSkip)
  (fSeq (fAsg 4 (fBin sAdd (fBin sIx (fB 2) (fV 3)) (fBin sIx (fBin sIx (fV 0) (fV 3)) (fC (.int 1)))))
  (fSeq (fAsg 5 (fC (.int 0)))
  (fFor (iRg2 (aCons (fV 3) (aCons (fCl (o1 sLen) (aCons (fV 0) aNil)) aNil))) (tgN 6)
  b_law_costs_1))))
def g_law_costs : Rho → Out := (fSeq (fAsgO 2 (fBin sCat (fLst (aCons (fC (.int 0)) aNil)) c_law_costs_1))
  (fSeq (fFor (iRg1 (aCons (fCl (o1 sLen) (aCons (fV 0) aNil)) aNil)) (tgN 3)
  b_law_costs_2)
  (fSeq (fIf (fAnd (toB (fBin sGt (fCl (o1 sLen) (aCons (fV 0) aNil)) (fC (.int 0)))) (toB (fBin sEq (fBin sIx (fBin sIx (fV 0) (fUn sNeg (fC (.int 1)))) (fC (.int 0))) (fC (.int 0)))))
  (fSet 2 (fCl (o2 sMin2) (aCons (fBin sIx (fB 2) (fUn sNeg (fC (.int 1)))) (aCons (fBin sIx (fB 2) (fUn sNeg (fC (.int 2)))) aNil))) (fUn sNeg (fC (.int 1))))
  fSkip)
  (fFz 2 (fRet (fV 2))))))
def f_law_costs : List D → Rs D := runB false 1 7 g_law_costs
theorem u_law_costs (y0 : D) : f_law_costs [y0] = (g_law_costs [.va y0, .un, .un, .un, .un, .un, .un]).res false := runB_eq rfl
/-- _law_quiet(_law_rows, _law_many) -/
def c_law_quiet_1 : Rho → Rs D := (fComp [2] (iRg1 (aCons (fV 1) aNil)) (tgN 2) fYes (fTup (aCons (fC (.int 0)) (aCons (fBin sIx (fBin sIx (fV 0) (fV 2)) (fC (.int 1))) (aCons (fBin sIx (fBin sIx (fV 0) (fV 2)) (fC (.int 2))) aNil)))))
def g_law_quiet : Rho → Out := (fRet (fBin sAdd c_law_quiet_1 (fSlice (fV 0) (fPart (some (fV 1))) (fPart none))))
def f_law_quiet : List D → Rs D := runB false 2 3 g_law_quiet
theorem u_law_quiet (y0 y1 : D) : f_law_quiet [y0, y1] = (g_law_quiet [.va y0, .va y1, .un]).res false := runB_eq rfl
/-- _law_stretched(_law_rows) -/
def c_law_stretched_1 : Rho → Rs D := (fComp [2, 3, 4] (iLst (fV 0)) (tgT [(tgN 2), (tgN 3), (tgN 4)]) fYes (fTup (aCons (fBin sMul (fV 2) (fV 1)) (aCons (fBin sMul (fBin sMul (fV 3) (fV 1)) (fV 1)) (aCons (fBin sMul (fV 4) (fV 1)) aNil)))))
def g_law_stretched : Rho → Out := (fSeq (fAsg 1 (fBin sMul (fC (.int (10 ^ 50))) (fC (.int (10 ^ 50)))))
  (fRet c_law_stretched_1))
def f_law_stretched : List D → Rs D := runB false 1 5 g_law_stretched
theorem u_law_stretched (y0 : D) : f_law_stretched [y0] = (g_law_stretched [.va y0, .un, .un, .un, .un]).res false := runB_eq rfl
/-- least_costs(periods) -/
def b_least_costs_1 : Rho → Out := (fIf (toB (fBin sEq (fBin sIx (fBin sIx (fV 0) (fBin sSub (fV 2) (fC (.int 1)))) (fC (.int 0))) (fC (.int 0))))
  (fMut 1 (aCons (fBin sIx (fB 1) (fUn sNeg (fC (.int 1)))) aNil) mAppend)
  (fMut 1 (aCons (fCl (o1 sMin) (aCons (fCallB f_last_costs (aCons (fV 0) (aCons (fB 1) (aCons (fV 2) (aCons (fC (.int 0)) aNil))))) aNil)) aNil) mAppend))
def g_least_costs : Rho → Out := (fSeq (fDrop (fCallD f_check_periods .none (aCons (fV 0) aNil)))
  (fSeq (fAsgO 1 (fLst (aCons (fC (.int 0)) aNil)))
  (fSeq (fFor (iRg2 (aCons (fC (.int 1)) (aCons (fBin sAdd (fCl (o1 sLen) (aCons (fV 0) aNil)) (fC (.int 1))) aNil))) (tgN 2)
  b_least_costs_1)
  (fRetV 1))))
def f_least_costs : List D → Rs D := runB true 1 3 g_least_costs
theorem u_least_costs (y0 : D) : f_least_costs [y0] = (g_least_costs [.va y0, .un, .un]).res true := runB_eq rfl
/-- _law_high(_law_periods_here, _law_final_here) -/
def c_law_high_1 : Rho → Rs D := (fComp [2, 3, 4] (iLst (fV 0)) (tgT [(tgN 2), (tgN 3), (tgN 4)]) fYes (fV 2))
def c_law_high_2 : Rho → Rs D := (fComp [2, 3, 4] (iLst (fV 0)) (tgT [(tgN 2), (tgN 3), (tgN 4)]) fYes (fBin sAdd (fV 3) (fBin sMul (fV 5) (fV 4))))
def g_law_high : Rho → Out := (fSeq (fAsg 5 (fBin sAdd (fV 1) (fCl (o1 sSum) (aCons c_law_high_1 aNil))))
  (fRet (fBin sAdd (fC (.int 1)) (fCl (o1 sSum) (aCons c_law_high_2 aNil)))))
def f_law_high : List D → Rs D := runB false 2 6 g_law_high
theorem u_law_high (y0 y1 : D) : f_law_high [y0, y1] = (g_law_high [.va y0, .va y1, .un, .un, .un, .un]).res false := runB_eq rfl
/-- check_ending(periods, ending) -/
def g_check_ending : Rho → Out := (fSeq (fDrop (fCallD f_check_periods .none (aCons (fV 0) aNil)))
  (fSeq (fIf (toB (fBin sLt (fV 1) (fC (.int 0))))
  (fRaise 7 aNil)
  fSkip)
  (fIf (fAnd (toB (fBin sGt (fV 1) (fC (.int 0)))) (toB (fBin sEq (fCl (o1 sLen) (aCons (fV 0) aNil)) (fC (.int 0)))))
  (fRaise 2 aNil)
  fSkip)))
def f_check_ending : List D → Rs D := runB false 2 2 g_check_ending
theorem u_check_ending (y0 y1 : D) : f_check_ending [y0, y1] = (g_check_ending [.va y0, .va y1]).res false := runB_eq rfl
/-- _law_least(_law_periods_here, _law_final_here) -/
def g_law_least : Rho → Out := (fSeq (fIf (toB (fBin sEq (fV 1) (fC (.int 0))))
  (fRet (fBin sIx (fCall f_law_costs (aCons (fV 0) aNil)) (fUn sNeg (fC (.int 1)))))
  fSkip)
  (fRet (fBin sIx (fCall f_law_costs (aCons (fBin sAdd (fV 0) (fLst (aCons (fTup (aCons (fV 1) (aCons (fCall f_law_high (aCons (fV 0) (aCons (fV 1) aNil))) (aCons (fC (.int 1)) aNil)))) aNil))) aNil)) (fUn sNeg (fC (.int 1))))))
def f_law_least : List D → Rs D := runB false 2 2 g_law_least
theorem u_law_least (y0 y1 : D) : f_law_least [y0, y1] = (g_law_least [.va y0, .va y1]).res false := runB_eq rfl
/-- least_cost(periods, ending) -/
def g_least_cost : Rho → Out := (fSeq (fDrop (fCall f_check_ending (aCons (fV 0) (aCons (fV 1) aNil))))
  (fSeq (fAsg 2 (fCall f_least_costs (aCons (fV 0) aNil)))
  (fSeq (fIf (toB (fBin sEq (fV 1) (fC (.int 0))))
  (fRet (fBin sIx (fV 2) (fUn sNeg (fC (.int 1)))))
  fSkip)
  (fRet (fCl (o1 sMin) (aCons (fCall f_last_costs (aCons (fV 0) (aCons (fV 2) (aCons (fCl (o1 sLen) (aCons (fV 0) aNil)) (aCons (fV 1) aNil))))) aNil))))))
def f_least_cost : List D → Rs D := runB false 2 3 g_least_cost
theorem u_least_cost (y0 y1 : D) : f_least_cost [y0, y1] = (g_least_cost [.va y0, .va y1, .un]).res false := runB_eq rfl
/-- cost_lines(periods) -/
def b_cost_lines_1 : Rho → Out := (fSeq (fAug 2 sAddI (fBin sIx (fBin sIx (fV 0) (fV 4)) (fC (.int 2))))
  (fMut 3 (aCons (fTup (aCons (fBin sIx (fV 1) (fV 4)) (aCons (fV 2) aNil))) aNil) mAppend))
def g_cost_lines : Rho → Out := (fSeq (fAsg 1 (fCall f_last_costs (aCons (fV 0) (aCons (fCall f_least_costs (aCons (fV 0) aNil)) (aCons (fCl (o1 sLen) (aCons (fV 0) aNil)) (aCons (fC (.int 0)) aNil))))))
  (fSeq (fAsg 2 (fC (.int 0)))
  (fSeq (fAsgO 3 (fLst aNil))
  (fSeq (fFor (iRvR (fCl (o1 sLen) (aCons (fV 0) aNil))) (tgN 4)
  b_cost_lines_1)
  (fSeq (fMut 3 aNil mReverse)
  (fFz 3 (fRet (fV 3))))))))
def f_cost_lines : List D → Rs D := runB false 1 5 g_cost_lines
theorem u_cost_lines (y0 : D) : f_cost_lines [y0] = (g_cost_lines [.va y0, .un, .un, .un, .un]).res false := runB_eq rfl
/-- greatest_forced(periods, cap) -/
def c_greatest_forced_1 : Rho → Rs D := (fComp [3, 4] (iLst (fCall f_cost_lines (aCons (fV 0) aNil))) (tgT [(tgN 3), (tgN 4)]) fYes (fBin sDiv (fBin sSub (fV 2) (fV 3)) (fV 4)))
def g_greatest_forced : Rho → Out := (fSeq (fDrop (fCallD f_check_periods .none (aCons (fV 0) aNil)))
  (fSeq (fIf (toB (fBin sEq (fCl (o1 sLen) (aCons (fV 0) aNil)) (fC (.int 0))))
  (fRaise 2 aNil)
  fSkip)
  (fSeq (fIf (toB (fUn sIsN (fV 1)))
  (fRet (fC .none))
  fSkip)
  (fSeq (fAsg 2 (fBin sSub (fBin sAdd (fCallD f_least_cost (.int 0) (aCons (fV 0) aNil)) (fV 1)) (fC (.int 1))))
  (fRet (fCl (o1 sMax) (aCons (fBin sAdd (fLst (aCons (fC (.int 0)) aNil)) c_greatest_forced_1) aNil)))))))
def f_greatest_forced : List D → Rs D := runB false 2 5 g_greatest_forced
theorem u_greatest_forced (y0 y1 : D) : f_greatest_forced [y0, y1] = (g_greatest_forced [.va y0, .va y1, .un, .un, .un]).res false := runB_eq rfl
/-- _law_lines(_law_periods_here) -/
def b_law_lines_1 : Rho → Out := (fSeq (fAsg 4 (fBin sAdd (fV 4) (fBin sMul (fV 5) (fV 6))))
  (fAsg 5 (fBin sAdd (fV 5) (fV 8))))
def b_law_lines_2 : Rho → Out := (fSeq (fAsg 4 (fBin sAdd (fBin sIx (fV 1) (fV 3)) (fBin sIx (fBin sIx (fV 0) (fV 3)) (fC (.int 1)))))
  (fSeq (fAsg 5 (fC (.int 0)))
  (fSeq (fFor (iLst (fSlice (fV 0) (fPart (some (fV 3))) (fPart none))) (tgT [(tgN 6), (tgN 7), (tgN 8)])
  b_law_lines_1)
  (fMut 2 (aCons (fTup (aCons (fV 4) (aCons (fV 5) aNil))) aNil) mAppend))))
def g_law_lines : Rho → Out := (fSeq (fAsg 1 (fCall f_law_costs (aCons (fV 0) aNil)))
  (fSeq (fAsgO 2 (fLst aNil))
  (fSeq (fFor (iRg1 (aCons (fCl (o1 sLen) (aCons (fV 0) aNil)) aNil)) (tgN 3)
  b_law_lines_2)
  (fFz 2 (fRet (fV 2))))))
def f_law_lines : List D → Rs D := runB false 1 9 g_law_lines
theorem u_law_lines (y0 : D) : f_law_lines [y0] = (g_law_lines [.va y0, .un, .un, .un, .un, .un, .un, .un, .un]).res false := runB_eq rfl
/-- _law_forced(_law_periods_here, _law_final_here, _law_ceiling) -/
def g_law_forced : Rho → Out := (fSeq (fIf (fOr (toB (fBin sEq (fV 1) (fC (.int 0)))) (toB (fUn sIsN (fV 2))))
  (fRet (fC (.bool true)))
  fSkip)
  (fRet (fBin sLt (fCall f_law_least (aCons (fV 0) (aCons (fV 1) aNil))) (fBin sAdd (fBin sIx (fCall f_law_costs (aCons (fV 0) aNil)) (fUn sNeg (fC (.int 1)))) (fV 2)))))
def f_law_forced : List D → Rs D := runB false 3 3 g_law_forced
theorem u_law_forced (y0 y1 y2 : D) : f_law_forced [y0, y1, y2] = (g_law_forced [.va y0, .va y1, .va y2]).res false := runB_eq rfl
/-- _law_edge(_law_rows, _law_ceiling) -/
def c_law_edge_1 : Rho → Rs D := (fComp [3, 4] (iLst (fCall f_law_lines (aCons (fV 0) aNil))) (tgT [(tgN 3), (tgN 4)]) fYes (fBin sDiv (fBin sSub (fV 2) (fV 3)) (fV 4)))
def g_law_edge : Rho → Out := (fSeq (fAsg 2 (fBin sSub (fBin sAdd (fBin sIx (fCall f_law_costs (aCons (fV 0) aNil)) (fUn sNeg (fC (.int 1)))) (fV 1)) (fC (.int 1))))
  (fRet (fCl (o1 sMax) (aCons (fBin sAdd (fLst (aCons (fC (.int 0)) aNil)) c_law_edge_1) aNil))))
def f_law_edge : List D → Rs D := runB false 2 5 g_law_edge
theorem u_law_edge (y0 y1 : D) : f_law_edge [y0, y1] = (g_law_edge [.va y0, .va y1, .un, .un, .un]).res false := runB_eq rfl
/-- standard_continuation(periods, ending, cap) -/
def g_standard_continuation : Rho → Out := (fSeq (fAsg 3 (fCallK f_greatest_forced (aCons (fV 0) aNil) (fV 2)))
  (fSeq (fIf (toB (fBin sLt (fV 1) (fC (.int 0))))
  (fRaise 7 aNil)
  fSkip)
  (fSeq (fIf (toB (fBin sEq (fV 1) (fC (.int 0))))
  (fRet (fLst aNil))
  fSkip)
  (fSeq (fIf (fAnd (toB (fUn sNotN (fV 3))) (toB (fBin sGt (fV 1) (fV 3))))
  (fRaise 8 aNil)
  fSkip)
  (fSeq (fIf (toB (fUn sIsN (fV 2)))
  (fRet (fLst (aCons (fTup (aCons (fV 1) (aCons (fBin sAdd (fCallK f_least_cost (aCons (fV 0) aNil) (fV 1)) (fC (.int 1))) (aCons (fC (.int 1)) aNil)))) aNil)))
  fSkip)
  (fRet (fLst (aCons (fTup (aCons (fV 1) (aCons (fV 2) (aCons (fC (.int 1)) aNil)))) aNil))))))))
def f_standard_continuation : List D → Rs D := runB true 3 4 g_standard_continuation
theorem u_standard_continuation (y0 y1 y2 : D) : f_standard_continuation [y0, y1, y2] = (g_standard_continuation [.va y0, .va y1, .va y2, .un]).res true := runB_eq rfl
/-- _law_any(_law_periods, _law_orders, _law_final) -/
def c_law_any_1 : Rho → Rs D := (fComp [3, 4, 5] (iLst (fV 0)) (tgT [(tgN 3), (tgN 4), (tgN 5)]) fYes (fV 3))
def c_law_any_2 : Rho → Rs D := (fComp [7] (iRg1 (aCons (fV 6) aNil)) (tgN 7) fYes (fC .none))
def c_law_any_3 : Rho → Rs D := (fComp [7] (iRg1 (aCons (fBin sAdd (fV 6) (fC (.int 1))) aNil)) (tgN 7) fYes (fC .none))
def b_law_any_1 : Rho → Out := (fSeq (fAsg 12 (fOrV (fBin sGe (fV 9) (fCl (o1 sLen) (aCons (fV 1) aNil))) (fBin sEq (fBin sIx (fV 1) (fV 9)) (fBin sSub (fV 11) (fV 7)))))
  (fIf (fAnd (toB (fUn sNotN (fBin sIx (fV 8) (fV 7)))) (toT (fV 12)))
  (fSeq (fAsg 13 (fBin sSub (fV 11) (fV 3)))
  (fSeq (fAsg 14 (fBin sAdd (fBin sIx (fV 8) (fV 7)) (fBin sMul (fV 5) (fV 13))))
  (fSeq (fIf (toB (fBin sGt (fV 11) (fV 7)))
  (fAsg 14 (fBin sAdd (fV 14) (fV 4)))
  fSkip)
  (fIf (fOr (toB (fUn sIsN (fBin sIx (fB 10) (fV 13)))) (toB (fBin sLt (fV 14) (fBin sIx (fB 10) (fV 13)))))
  (fSet 10 (fV 14) (fV 13))
  fSkip))))
  fSkip))
def b_law_any_2 : Rho → Out := (fFor (iRg2 (aCons (fCl (o2 sMax2) (aCons (fV 7) (aCons (fV 3) aNil))) (aCons (fBin sAdd (fV 6) (fC (.int 1))) aNil))) (tgN 11)
  b_law_any_1)
def b_law_any_3 : Rho → Out := (fSeq (fAsgT (tgT [(tgN 3), (tgN 4), (tgN 5)]) (fBin sIx (fV 0) (fV 9)))
  (fSeq (fAsgO 10 c_law_any_3)
  (fSeq (fFor (iRg1 (aCons (fBin sAdd (fV 6) (fC (.int 1))) aNil)) (tgN 7)
  b_law_any_2)
  (fFz 10 (fAsg 8 (fV 10))))))
def g_law_any : Rho → Out := (fSeq (fAsg 6 (fBin sAdd (fV 2) (fCl (o1 sSum) (aCons c_law_any_1 aNil))))
  (fSeq (fAsg 8 (fBin sAdd (fLst (aCons (fC (.int 0)) aNil)) c_law_any_2))
  (fSeq (fFor (iRg1 (aCons (fCl (o1 sLen) (aCons (fV 0) aNil)) aNil)) (tgN 9)
  b_law_any_3)
  (fRet (fBin sIx (fV 8) (fV 2))))))
def f_law_any : List D → Rs D := runB false 3 15 g_law_any
theorem u_law_any (y0 y1 y2 : D) : f_law_any [y0, y1, y2] = (g_law_any [.va y0, .va y1, .va y2, .un, .un, .un, .un, .un, .un, .un, .un, .un, .un, .un, .un]).res false := runB_eq rfl
/-- plans_from(periods, table, count, ending, start) -/
def c_plans_from_1 : Rho → Rs D := (fComp [5] (iLst (fSlice (fV 0) (fPart (some (fV 4))) (fPart (some (fV 2))))) (tgN 5) fYes (fBin sIx (fV 5) (fC (.int 0))))
def c_plans_from_2 : Rho → Rs D := (fComp [8] (iVals' (fBin sIx (fV 1) (fV 4))) (tgN 8) fYes (fBin sAdd (fV 8) (fV 7)))
def g_plans_from : Rho → Out := (fSeq (fAsg 6 (fBin sAdd (fV 3) (fCl (o1 sSum) (aCons c_plans_from_1 aNil))))
  (fSeq (fAsg 7 (fBin sAdd (fLst (aCons (fV 6) aNil)) (fBin sMul (fLst (aCons (fC (.int 0)) aNil)) (fBin sSub (fBin sSub (fV 2) (fV 4)) (fC (.int 1))))))
  (fSeq (fIf (toB (fBin sEq (fV 4) (fC (.int 0))))
  (fRet (fLst (aCons (fV 7) aNil)))
  fSkip)
  (fRet c_plans_from_2))))
def f_plans_from : List D → Rs D := runB false 5 9 g_plans_from
theorem u_plans_from (y0 y1 y2 y3 y4 : D) : f_plans_from [y0, y1, y2, y3, y4] = (g_plans_from [.va y0, .va y1, .va y2, .va y3, .va y4, .un, .un, .un, .un]).res false := runB_eq rfl
/-- _law_tied(_law_rows) -/
def b_law_tied_1 : Rho → Out := (fIf (toB (fBin sGt (fCl (o1 sLen) (aCons (fB 1) aNil)) (fC (.int 0))))
  (fMut 1 (aCons (fTup (aCons (fV 2) (aCons (fBin sMul (fBin sIx (fBin sIx (fB 1) (fUn sNeg (fC (.int 1)))) (fC (.int 2))) (fV 2)) (aCons (fV 4) aNil)))) aNil) mAppend)
  (fMut 1 (aCons (fTup (aCons (fV 2) (aCons (fV 3) (aCons (fV 4) aNil)))) aNil) mAppend))
def g_law_tied : Rho → Out := (fSeq (fAsgO 1 (fLst aNil))
  (fSeq (fFor (iLst (fV 0)) (tgT [(tgN 2), (tgN 3), (tgN 4)])
  b_law_tied_1)
  (fFz 1 (fRet (fV 1)))))
def f_law_tied : List D → Rs D := runB false 1 5 g_law_tied
theorem u_law_tied (y0 : D) : f_law_tied [y0] = (g_law_tied [.va y0, .un, .un, .un, .un]).res false := runB_eq rfl
/-- best_starts(periods, costs, count, ending) -/
def c_best_starts_1 : Rho → Rs D := (fComp [6] (iRg1 (aCons (fV 2) aNil)) (tgN 6) (toB (fBin sEq (fBin sIx (fV 4) (fV 6)) (fV 5))) (fV 6))
def g_best_starts : Rho → Out := (fSeq (fAsg 4 (fCall f_last_costs (aCons (fV 0) (aCons (fV 1) (aCons (fV 2) (aCons (fV 3) aNil))))))
  (fSeq (fAsg 5 (fCl (o1 sMin) (aCons (fV 4) aNil)))
  (fRet c_best_starts_1)))
def f_best_starts : List D → Rs D := runB false 4 7 g_best_starts
theorem u_best_starts (y0 y1 y2 y3 : D) : f_best_starts [y0, y1, y2, y3] = (g_best_starts [.va y0, .va y1, .va y2, .va y3, .un, .un, .un]).res false := runB_eq rfl
/-- _law_prefix(_law_periods_here, _law_orders) -/
def b_law_prefix_1 : Rho → Out := (fSeq (fAsgT (tgT [(tgN 6), (tgN 7), (tgN 8)]) (fBin sIx (fV 0) (fV 5)))
  (fSeq (fIf (toB (fBin sLt (fV 5) (fCl (o1 sLen) (aCons (fV 1) aNil))))
  (fSeq (fAsg 3 (fBin sSub (fBin sAdd (fV 3) (fBin sIx (fV 1) (fV 5))) (fV 6)))
  (fIf (toB (fBin sGt (fBin sIx (fV 1) (fV 5)) (fC (.int 0))))
  (fAsg 2 (fBin sAdd (fV 2) (fV 7)))
  fSkip))
  (fSeq (fAsg 9 (fCl (o2 sMin2) (aCons (fV 3) (aCons (fV 6) aNil))))
  (fSeq (fAsg 3 (fBin sSub (fV 3) (fV 9)))
  (fMut 4 (aCons (fTup (aCons (fBin sSub (fV 6) (fV 9)) (aCons (fV 7) (aCons (fV 8) aNil)))) aNil) mAppend))))
  (fAsg 2 (fBin sAdd (fV 2) (fBin sMul (fV 8) (fV 3))))))
def g_law_prefix : Rho → Out := (fSeq (fAsg 2 (fC (.int 0)))
  (fSeq (fAsg 3 (fC (.int 0)))
  (fSeq (fAsgO 4 (fLst aNil))
  (fSeq (fFor (iRg1 (aCons (fCl (o1 sLen) (aCons (fV 0) aNil)) aNil)) (tgN 5)
  b_law_prefix_1)
  (fRet (fBin sAdd (fV 2) (fSc (fBin sIx (fCallB f_law_costs (aCons (fB 4) aNil)) (fUn sNeg (fC (.int 1)))))))))))
def f_law_prefix : List D → Rs D := runB false 2 10 g_law_prefix
theorem u_law_prefix (y0 y1 : D) : f_law_prefix [y0, y1] = (g_law_prefix [.va y0, .va y1, .un, .un, .un, .un, .un, .un, .un, .un]).res false := runB_eq rfl
/-- _law_walk(_law_periods_here, _law_orders) -/
def b_law_walk_1 : Rho → Out := (fSeq (fAsgT (tgT [(tgN 5), (tgN 6), (tgN 7)]) (fBin sIx (fV 0) (fV 4)))
  (fSeq (fAsg 3 (fBin sSub (fBin sAdd (fV 3) (fBin sIx (fV 1) (fV 4))) (fV 5)))
  (fSeq (fIf (fOr (toB (fBin sLt (fBin sIx (fV 1) (fV 4)) (fC (.int 0)))) (toB (fBin sLt (fV 3) (fC (.int 0)))))
  (fRet (fC .none))
  fSkip)
  (fSeq (fAsg 2 (fBin sAdd (fV 2) (fBin sMul (fV 7) (fV 3))))
  (fIf (toB (fBin sGt (fBin sIx (fV 1) (fV 4)) (fC (.int 0))))
  (fAsg 2 (fBin sAdd (fV 2) (fV 6)))
  fSkip)))))
def g_law_walk : Rho → Out := (fSeq (fIf (fOr (fNot (toB (fCall f_law_integers (aCons (fV 1) aNil)))) (toB (fBin sNe (fCl (o1 sLen) (aCons (fV 1) aNil)) (fCl (o1 sLen) (aCons (fV 0) aNil)))))
  (fRet (fC .none))
  fSkip)
  (fSeq (fAsg 2 (fC (.int 0)))
  (fSeq (fAsg 3 (fC (.int 0)))
  (fSeq (fFor (iRg1 (aCons (fCl (o1 sLen) (aCons (fV 0) aNil)) aNil)) (tgN 4)
  b_law_walk_1)
  (fRet (fTup (aCons (fV 2) (aCons (fV 3) aNil))))))))
def f_law_walk : List D → Rs D := runB false 2 8 g_law_walk
theorem u_law_walk (y0 y1 : D) : f_law_walk [y0, y1] = (g_law_walk [.va y0, .va y1, .un, .un, .un, .un, .un, .un]).res false := runB_eq rfl
/-- plans_by_first(periods, costs, table, count, ending) -/
def c_plans_by_first_1 : Rho → Rs D := (fDComp [5, 6] (iItems' (fBin sIx (fV 2) (fBin sSub (fV 3) (fC (.int 1))))) (tgT [(tgN 5), (tgN 6)]) fYes (fV 5) (fBin sAdd (fV 6) (fLst (aCons (fC (.int 0)) aNil))))
def b_plans_by_first_1 : Rho → Out := (fIf (fOr (toB (fBin sDNotIn (fBin sIx (fV 6) (fC (.int 0))) (fOd 7))) (toB (fBin sLtL (fV 6) (fBin sDGet (fOd 7) (fBin sIx (fV 6) (fC (.int 0)))))))
  (fDPut 7 (fV 6) (fBin sIx (fV 6) (fC (.int 0))))
  fSkip)
def b_plans_by_first_2 : Rho → Out := (fFor (iLst (fCall f_plans_from (aCons (fV 0) (aCons (fV 2) (aCons (fV 3) (aCons (fV 4) (aCons (fV 8) aNil))))))) (tgN 6)
  b_plans_by_first_1)
def g_plans_by_first : Rho → Out := (fSeq (fIf (fAnd (toB (fBin sEq (fV 4) (fC (.int 0)))) (toB (fBin sEq (fBin sIx (fBin sIx (fV 0) (fBin sSub (fV 3) (fC (.int 1)))) (fC (.int 0))) (fC (.int 0)))))
  (fSeq (fIf (toB (fBin sEq (fV 3) (fC (.int 1))))
  (fRet (fDisp1 (fC (.int 0)) (fLst (aCons (fC (.int 0)) aNil))))
  fSkip)
  (fRet c_plans_by_first_1))
  fSkip)
  (fSeq (fAsgM 7 (fC (.dict [])))
  (fSeq (fFor (iLst (fCall f_best_starts (aCons (fV 0) (aCons (fV 1) (aCons (fV 3) (aCons (fV 4) aNil)))))) (tgN 8)
  b_plans_by_first_2)
  (fRetM 7))))
def f_plans_by_first : List D → Rs D := runB false 5 9 g_plans_by_first
theorem u_plans_by_first (y0 y1 y2 y3 y4 : D) : f_plans_by_first [y0, y1, y2, y3, y4] = (g_plans_by_first [.va y0, .va y1, .va y2, .va y3, .va y4, .un, .un, .un, .un]).res false := runB_eq rfl
/-- _law_lean(_law_periods_here, _law_final) -/
def c_law_lean_1 : Rho → Rs D := (fComp [4] (iLst (fV 2)) (tgN 4) fYes (fBin sAdd (fV 4) (fLst (aCons (fC (.int 0)) aNil))))
def c_law_lean_2 : Rho → Rs D := (fComp [4] (iLst (fV 2)) (tgN 4) fYes (fBin sAdd (fV 4) (fLst (aCons (fC (.int 1)) aNil))))
def b_law_lean_1 : Rho → Out := (fAsg 2 (fBin sAdd c_law_lean_1 c_law_lean_2))
def c_law_lean_3 : Rho → Rs D := (fComp [6] (iLst (fV 4)) (tgN 6) fYes (fC (.int 0)))
def b_law_lean_2 : Rho → Out := (fSeq (fAsg 8 (fBin sAdd (fV 8) (fBin sIx (fBin sIx (fV 0) (fV 9)) (fC (.int 0)))))
  (fIf (toB (fBin sEq (fBin sIx (fV 4) (fV 9)) (fC (.int 1))))
  (fSeq (fSet 7 (fV 8) (fV 9))
  (fAsg 8 (fC (.int 0))))
  fSkip))
def c_law_lean_4 : Rho → Rs D := (fComp [10] (iLst (fV 7)) (tgN 10) fYes (fCl (o1 sInt) (aCons (fBin sGt (fV 10) (fC (.int 0))) aNil)))
def b_law_lean_3 : Rho → Out := (fSeq (fAsgO 7 c_law_lean_3)
  (fSeq (fAsg 8 (fV 1))
  (fSeq (fFor (iRvR (fCl (o1 sLen) (aCons (fV 4) aNil))) (tgN 9)
  b_law_lean_2)
  (fFz 7 (fIf (fAnd (toB (fBin sEq (fV 8) (fC (.int 0)))) (toB (fBin sEq (fCl (o1 sSum) (aCons (fV 4) aNil)) (fCl (o1 sSum) (aCons c_law_lean_4 aNil)))))
  (fMut 5 (aCons (fTup (aCons (fBin sIx (fCall f_law_walk (aCons (fV 0) (aCons (fV 7) aNil))) (fC (.int 0))) (aCons (fV 7) aNil))) aNil) mAppend)
  fSkip)))))
def g_law_lean : Rho → Out := (fSeq (fAsg 2 (fLst (aCons (fLst aNil) aNil)))
  (fSeq (fFor (iLst (fV 0)) (tgN 3)
  b_law_lean_1)
  (fSeq (fAsgO 5 (fLst aNil))
  (fSeq (fFor (iLst (fV 2)) (tgN 4)
  b_law_lean_3)
  (fFz 5 (fRet (fV 5)))))))
def f_law_lean : List D → Rs D := runB false 2 11 g_law_lean
theorem u_law_lean (y0 y1 : D) : f_law_lean [y0, y1] = (g_law_lean [.va y0, .va y1, .un, .un, .un, .un, .un, .un, .un, .un, .un]).res false := runB_eq rfl
/-- plan_table(periods) -/
def b_plan_table_1 : Rho → Out := (fMut 2 (aCons (fSc (fCallB f_plans_by_first (aCons (fV 0) (aCons (fV 1) (aCons (fB 2) (aCons (fV 3) (aCons (fC (.int 0)) aNil))))))) aNil) mAppend)
def g_plan_table : Rho → Out := (fSeq (fAsg 1 (fCall f_least_costs (aCons (fV 0) aNil)))
  (fSeq (fAsgO 2 (fLst (aCons (fC (.dict [])) aNil)))
  (fSeq (fFor (iRg2 (aCons (fC (.int 1)) (aCons (fBin sAdd (fCl (o1 sLen) (aCons (fV 0) aNil)) (fC (.int 1))) aNil))) (tgN 3)
  b_plan_table_1)
  (fFz 2 (fRet (fV 2))))))
def f_plan_table : List D → Rs D := runB false 1 4 g_plan_table
theorem u_plan_table (y0 : D) : f_plan_table [y0] = (g_plan_table [.va y0, .un, .un, .un]).res false := runB_eq rfl
/-- _law_drawn(_law_script) -/
def g_law_drawn : Rho → Out := (fSeq (fAsgT (tgT [(tgN 1), (tgN 2), (tgN 3)]) (fCall f_law_shape (aCons (fV 0) (aCons (fC (.int 14)) aNil))))
  (fSeq (fAsg 4 (fCall f_law_number (aCons (fV 0) (aCons (fC (.int 3)) aNil))))
  (fSeq (fIf (toB (fBin sEq (fBin sMod (fCl (o1 sInt) (aCons (fV 4) aNil)) (fC (.int 2))) (fC (.int 0))))
  (fAsg 1 (fC (.int 0)))
  fSkip)
  (fSeq (fAsg 5 (fCall f_law_periods (aCons (fV 0) (aCons (fC (.int 4)) (aCons (fCl (o2 sMin2) (aCons (fC (.int 14)) (aCons (fBin sAdd (fV 2) (fBin sMod (fCl (o1 sInt) (aCons (fBin sDiv (fV 4) (fC (.int 2))) aNil)) (fC (.int 6)))) aNil))) (aCons (fV 1) aNil))))))
  (fSeq (fIf (toB (fBin sEq (fBin sMod (fCl (o1 sInt) (aCons (fBin sDiv (fV 4) (fC (.int 12))) aNil)) (fC (.int 4))) (fC (.int 0))))
  (fRet (fCall f_law_tied (aCons (fV 5) aNil)))
  fSkip)
  (fRet (fV 5)))))))
def f_law_drawn : List D → Rs D := runB false 1 6 g_law_drawn
theorem u_law_drawn (y0 : D) : f_law_drawn [y0] = (g_law_drawn [.va y0, .un, .un, .un, .un, .un]).res false := runB_eq rfl
/-- optimal_plans(periods, ending) -/
def g_optimal_plans : Rho → Out := (fSeq (fAsg 2 (fCall f_least_costs (aCons (fV 0) aNil)))
  (fRet (fCall f_plans_by_first (aCons (fV 0) (aCons (fV 2) (aCons (fCall f_plan_table (aCons (fV 0) aNil)) (aCons (fCl (o1 sLen) (aCons (fV 0) aNil)) (aCons (fV 1) aNil))))))))
def f_optimal_plans : List D → Rs D := runB false 2 3 g_optimal_plans
theorem u_optimal_plans (y0 y1 : D) : f_optimal_plans [y0, y1] = (g_optimal_plans [.va y0, .va y1, .un]).res false := runB_eq rfl
/-- best_plan(periods, ending) -/
def g_best_plan : Rho → Out := (fSeq (fDrop (fCall f_check_ending (aCons (fV 0) (aCons (fV 1) aNil))))
  (fSeq (fIf (toB (fBin sEq (fCl (o1 sLen) (aCons (fV 0) aNil)) (fC (.int 0))))
  (fRet (fLst aNil))
  fSkip)
  (fRet (fMinVF f_optimal_plans (aCons (fV 0) (aCons (fV 1) aNil))))))
def f_best_plan : List D → Rs D := runB true 2 2 g_best_plan
theorem u_best_plan (y0 y1 : D) : f_best_plan [y0, y1] = (g_best_plan [.va y0, .va y1]).res true := runB_eq rfl
/-- _law_best(_law_periods_here, _law_order) -/
def c_law_best_1 : Rho → Rs D := (fComp [2, 3, 4] (iLst (fV 0)) (tgT [(tgN 2), (tgN 3), (tgN 4)]) fYes (fV 2))
def g_law_best : Rho → Out := (fSeq (fAsg 5 (fCl (o1 sSum) (aCons c_law_best_1 aNil)))
  (fSeq (fIf (fOr (toB (fBin sLt (fV 1) (fBin sIx (fBin sIx (fV 0) (fC (.int 0))) (fC (.int 0))))) (toB (fBin sGt (fV 1) (fV 5))))
  (fRet (fC (.bool false)))
  fSkip)
  (fRet (fBin sEq (fCall f_law_prefix (aCons (fV 0) (aCons (fLst (aCons (fV 1) aNil)) aNil))) (fBin sIx (fCall f_law_costs (aCons (fV 0) aNil)) (fUn sNeg (fC (.int 1))))))))
def f_law_best : List D → Rs D := runB false 2 6 g_law_best
theorem u_law_best (y0 y1 : D) : f_law_best [y0, y1] = (g_law_best [.va y0, .va y1, .un, .un, .un, .un]).res false := runB_eq rfl
/-- _law_firsts(_law_periods_here) -/
def b_law_firsts_1 : Rho → Out := (fSeq (fAsg 1 (fBin sAdd (fV 1) (fV 3)))
  (fIf (fAnd (toB (fBin sNotIn (fV 1) (fB 2))) (toB (fCall f_law_best (aCons (fV 0) (aCons (fV 1) aNil)))))
  (fMut 2 (aCons (fV 1) aNil) mAppend)
  fSkip))
def g_law_firsts : Rho → Out := (fSeq (fAsg 1 (fC (.int 0)))
  (fSeq (fAsgO 2 (fLst aNil))
  (fSeq (fFor (iLst (fV 0)) (tgT [(tgN 3), (tgN 4), (tgN 5)])
  b_law_firsts_1)
  (fFz 2 (fRet (fV 2))))))
def f_law_firsts : List D → Rs D := runB false 1 6 g_law_firsts
theorem u_law_firsts (y0 : D) : f_law_firsts [y0] = (g_law_firsts [.va y0, .un, .un, .un, .un, .un]).res false := runB_eq rfl
/-- first_orders(periods, ending) -/
def g_first_orders : Rho → Out := (fSeq (fDrop (fCallD f_check_periods .none (aCons (fV 0) aNil)))
  (fSeq (fIf (toB (fBin sEq (fCl (o1 sLen) (aCons (fV 0) aNil)) (fC (.int 0))))
  (fRaise 2 aNil)
  fSkip)
  (fSeq (fDrop (fCall f_check_ending (aCons (fV 0) (aCons (fV 1) aNil))))
  (fRet (fSortK (fD (fCall f_optimal_plans (aCons (fV 0) (aCons (fV 1) aNil)))))))))
def f_first_orders : List D → Rs D := runB true 2 2 g_first_orders
theorem u_first_orders (y0 y1 : D) : f_first_orders [y0, y1] = (g_first_orders [.va y0, .va y1]).res true := runB_eq rfl
/-- _law_tied(_law_rows) -/
def b_law_tied_k16_1 : Rho → Out := (fSeq (fAsgT (tgT [(tgN 3), (tgN 4), (tgN 5)]) (fBin sIx (fV 0) (fV 2)))
  (fMut 1 (aCons (fTup (aCons (fV 3) (aCons (fBin sMul (fV 3) (fBin sIx (fBin sIx (fV 0) (fBin sSub (fV 2) (fC (.int 1)))) (fC (.int 2)))) (aCons (fV 5) aNil)))) aNil) mAppend))
def g_law_tied_k16 : Rho → Out := (fSeq (fAsgO 1 (fSlice (fV 0) (fPart none) (fPart (some (fC (.int 1))))))
  (fSeq (fFor (iRg2 (aCons (fC (.int 1)) (aCons (fCl (o1 sLen) (aCons (fV 0) aNil)) aNil))) (tgN 2)
  b_law_tied_k16_1)
  (fFz 1 (fRet (fV 1)))))
def f_law_tied_k16 : List D → Rs D := runB false 1 6 g_law_tied_k16
theorem u_law_tied_k16 (y0 : D) : f_law_tied_k16 [y0] = (g_law_tied_k16 [.va y0, .un, .un, .un, .un, .un]).res false := runB_eq rfl
/-- count_plans(periods, costs, ways, count, ending) -/
def c_count_plans_1 : Rho → Rs D := (fComp [5] (iLst (fCall f_best_starts (aCons (fV 0) (aCons (fV 1) (aCons (fV 3) (aCons (fV 4) aNil)))))) (tgN 5) fYes (fBin sIx (fV 2) (fV 5)))
def g_count_plans : Rho → Out := (fSeq (fIf (fAnd (toB (fBin sEq (fV 4) (fC (.int 0)))) (toB (fBin sEq (fBin sIx (fBin sIx (fV 0) (fBin sSub (fV 3) (fC (.int 1)))) (fC (.int 0))) (fC (.int 0)))))
  (fRet (fBin sIx (fV 2) (fBin sSub (fV 3) (fC (.int 1)))))
  fSkip)
  (fRet (fCl (o1 sSum) (aCons c_count_plans_1 aNil))))
def f_count_plans : List D → Rs D := runB false 5 6 g_count_plans
theorem u_count_plans (y0 y1 y2 y3 y4 : D) : f_count_plans [y0, y1, y2, y3, y4] = (g_count_plans [.va y0, .va y1, .va y2, .va y3, .va y4, .un]).res false := runB_eq rfl
/-- _law_grown(_law_script, _law_many) -/
def g_law_grown : Rho → Out := (fSeq (fIf (fAnd (toB (fBin sEq (fV 1) (fC (.int 1)))) (toB (fBin sGt (fCl (o1 sLen) (aCons (fV 0) aNil)) (fC (.int 0)))))
  (fRet (fBin sAdd (fC (.int 1)) (fBin sMod (fCl (o1 sInt) (aCons (fBin sDiv (fCall f_law_number (aCons (fV 0) (aCons (fC (.int 0)) aNil))) (fC (.int 144))) aNil)) (fC (.int 6)))))
  fSkip)
  (fRet (fV 1)))
def f_law_grown : List D → Rs D := runB false 2 2 g_law_grown
theorem u_law_grown (y0 y1 : D) : f_law_grown [y0, y1] = (g_law_grown [.va y0, .va y1]).res false := runB_eq rfl
/-- _law_crossing(_law_rows, _law_number_here) -/
def g_law_crossing : Rho → Out := (fSeq (fAsg 2 (fCall f_law_lines (aCons (fV 0) aNil)))
  (fSeq (fAsg 3 (fBin sMod (fCl (o1 sInt) (aCons (fV 1) aNil)) (fCl (o1 sLen) (aCons (fV 2) aNil))))
  (fSeq (fAsg 4 (fBin sMod (fCl (o1 sInt) (aCons (fBin sDiv (fV 1) (fCl (o1 sLen) (aCons (fV 2) aNil))) aNil)) (fCl (o1 sLen) (aCons (fV 2) aNil))))
  (fSeq (fIf (toB (fBin sEq (fV 3) (fV 4)))
  (fRet (fC (.int 1)))
  fSkip)
  (fSeq (fAsgT (tgT [(tgN 5), (tgN 6)]) (fBin sIx (fV 2) (fCl (o2 sMin2) (aCons (fV 3) (aCons (fV 4) aNil)))))
  (fSeq (fAsgT (tgT [(tgN 7), (tgN 8)]) (fBin sIx (fV 2) (fCl (o2 sMax2) (aCons (fV 3) (aCons (fV 4) aNil)))))
  (fRet (fCl (o2 sMax2) (aCons (fC (.int 1)) (aCons (fUn sNeg (fBin sDiv (fBin sSub (fV 5) (fV 7)) (fBin sSub (fV 6) (fV 8)))) aNil))))))))))
def f_law_crossing : List D → Rs D := runB false 2 9 g_law_crossing
theorem u_law_crossing (y0 y1 : D) : f_law_crossing [y0, y1] = (g_law_crossing [.va y0, .va y1, .un, .un, .un, .un, .un, .un, .un]).res false := runB_eq rfl
/-- count_best_plans(periods, ending) -/
def b_count_best_plans_1 : Rho → Out := (fMut 3 (aCons (fSc (fCallB f_count_plans (aCons (fV 0) (aCons (fV 2) (aCons (fB 3) (aCons (fV 4) (aCons (fC (.int 0)) aNil))))))) aNil) mAppend)
def g_count_best_plans : Rho → Out := (fSeq (fDrop (fCall f_check_ending (aCons (fV 0) (aCons (fV 1) aNil))))
  (fSeq (fAsg 2 (fCall f_least_costs (aCons (fV 0) aNil)))
  (fSeq (fAsgO 3 (fLst (aCons (fC (.int 1)) aNil)))
  (fSeq (fFor (iRg2 (aCons (fC (.int 1)) (aCons (fBin sAdd (fCl (o1 sLen) (aCons (fV 0) aNil)) (fC (.int 1))) aNil))) (tgN 4)
  b_count_best_plans_1)
  (fSeq (fIf (toB (fBin sEq (fV 1) (fC (.int 0))))
  (fRet (fBin sIx (fB 3) (fUn sNeg (fC (.int 1)))))
  fSkip)
  (fFz 3 (fRet (fCall f_count_plans (aCons (fV 0) (aCons (fV 2) (aCons (fV 3) (aCons (fCl (o1 sLen) (aCons (fV 0) aNil)) (aCons (fV 1) aNil)))))))))))))
def f_count_best_plans : List D → Rs D := runB false 2 5 g_count_best_plans
theorem u_count_best_plans (y0 y1 : D) : f_count_best_plans [y0, y1] = (g_count_best_plans [.va y0, .va y1, .un, .un, .un]).res false := runB_eq rfl
/-- best_ranges(lines) -/
def b_best_ranges_1 : Rho → Out := (fAsg 5 (fCl (o2 sMax2) (aCons (fV 5) (aCons (fUn sNeg (fBin sDiv (fBin sSub (fV 6) (fV 3)) (fBin sSub (fV 7) (fV 4)))) aNil))))
def b_best_ranges_2 : Rho → Out := (fSeq (fAsg 10 (fBin sDiv (fBin sSub (fV 6) (fV 3)) (fBin sSub (fV 4) (fV 9))))
  (fIf (fOr (toB (fUn sIsN (fV 8))) (toB (fBin sLt (fV 10) (fV 8))))
  (fAsg 8 (fV 10))
  fSkip))
def b_best_ranges_3 : Rho → Out := (fSeq (fAsg 5 (fC (.int 1)))
  (fSeq (fFor (iLst (fSlice (fV 0) (fPart none) (fPart (some (fV 2))))) (tgT [(tgN 6), (tgN 7)])
  b_best_ranges_1)
  (fSeq (fAsg 8 (fC .none))
  (fSeq (fFor (iLst (fSlice (fV 0) (fPart (some (fBin sAdd (fV 2) (fC (.int 1))))) (fPart none))) (tgT [(tgN 6), (tgN 9)])
  b_best_ranges_2)
  (fIf (fAnd (toB (fUn sNotN (fV 8))) (toB (fBin sLt (fV 8) (fV 5))))
  (fMut 1 (aCons (fC .none) aNil) mAppend)
  (fMut 1 (aCons (fTup (aCons (fV 5) (aCons (fV 8) aNil))) aNil) mAppend))))))
def g_best_ranges : Rho → Out := (fSeq (fAsgO 1 (fLst aNil))
  (fSeq (fFor (iEnu (fV 0)) (tgT [(tgN 2), (tgT [(tgN 3), (tgN 4)])])
  b_best_ranges_3)
  (fFz 1 (fRet (fV 1)))))
def f_best_ranges : List D → Rs D := runB false 1 11 g_best_ranges
theorem u_best_ranges (y0 : D) : f_best_ranges [y0] = (g_best_ranges [.va y0, .un, .un, .un, .un, .un, .un, .un, .un, .un, .un]).res false := runB_eq rfl
/-- profile_pieces(periods) -/
def b_profile_pieces_1 : Rho → Out := (fIf (toB (fUn sNotN (fV 4)))
  (fMut 2 (aCons (fTup (aCons (fV 3) (aCons (fBin sIx (fV 4) (fC (.int 0))) (aCons (fBin sIx (fV 4) (fC (.int 1))) (aCons (fBin sIx (fBin sIx (fV 1) (fV 3)) (fC (.int 0))) (aCons (fBin sIx (fBin sIx (fV 1) (fV 3)) (fC (.int 1))) aNil)))))) aNil) mAppend)
  fSkip)
def g_profile_pieces : Rho → Out := (fSeq (fAsg 1 (fCall f_cost_lines (aCons (fV 0) aNil)))
  (fSeq (fAsgO 2 (fLst aNil))
  (fSeq (fFor (iEnu (fCall f_best_ranges (aCons (fV 1) aNil))) (tgT [(tgN 3), (tgN 4)])
  b_profile_pieces_1)
  (fFz 2 (fRet (fV 2))))))
def f_profile_pieces : List D → Rs D := runB false 1 5 g_profile_pieces
theorem u_profile_pieces (y0 : D) : f_profile_pieces [y0] = (g_profile_pieces [.va y0, .un, .un, .un, .un]).res false := runB_eq rfl
/-- _law_meeting(_law_rows, _law_number_here) -/
def c_law_meeting_1 : Rho → Rs D := (fComp [10] (iLst (fSlice (fV 0) (fPart (some (fV 5))) (fPart none))) (tgN 10) fYes (fBin sIx (fV 10) (fC (.int 0))))
def b_law_meeting_1 : Rho → Out := (fSeq (fAsgT (tgT [(tgN 6), (tgN 7), (tgN 8)]) (fBin sIx (fV 0) (fV 5)))
  (fSeq (fAsg 9 (fSc (fCallB f_law_costs (aCons (fB 2) aNil))))
  (fSeq (fAsg 11 (fBin sAdd (fV 3) (fCl (o1 sSum) (aCons c_law_meeting_1 aNil))))
  (fSeq (fAsg 12 (fBin sSub (fBin sAdd (fBin sIx (fV 9) (fBin sSub (fV 5) (fC (.int 1)))) (fBin sIx (fBin sIx (fB 2) (fBin sSub (fV 5) (fC (.int 1)))) (fC (.int 1)))) (fBin sIx (fV 9) (fV 5))))
  (fSeq (fMut 2 (aCons (fTup (aCons (fV 6) (aCons (fBin sAdd (fV 12) (fBin sMul (fBin sIx (fBin sIx (fB 2) (fBin sSub (fV 5) (fC (.int 1)))) (fC (.int 2))) (fV 11))) (aCons (fV 8) aNil)))) aNil) mAppend)
  (fSeq (fAsg 3 (fCl (o2 sMax2) (aCons (fC (.int 1)) (aCons (fBin sSub (fBin sAdd (fV 3) (fBin sMod (fCl (o1 sInt) (aCons (fV 4) aNil)) (fC (.int 4)))) (fC (.int 1))) aNil))))
  (fAsg 4 (fBin sDiv (fV 4) (fC (.int 4))))))))))
def g_law_meeting : Rho → Out := (fSeq (fAsgO 2 (fSlice (fV 0) (fPart none) (fPart (some (fC (.int 1))))))
  (fSeq (fAsg 3 (fBin sAdd (fC (.int 1)) (fBin sMod (fCl (o1 sInt) (aCons (fV 1) aNil)) (fC (.int 20)))))
  (fSeq (fAsg 4 (fBin sDiv (fV 1) (fC (.int 20))))
  (fSeq (fFor (iRg2 (aCons (fC (.int 1)) (aCons (fCl (o1 sLen) (aCons (fV 0) aNil)) aNil))) (tgN 5)
  b_law_meeting_1)
  (fFz 2 (fRet (fV 2)))))))
def f_law_meeting : List D → Rs D := runB false 2 13 g_law_meeting
theorem u_law_meeting (y0 y1 : D) : f_law_meeting [y0, y1] = (g_law_meeting [.va y0, .va y1, .un, .un, .un, .un, .un, .un, .un, .un, .un, .un, .un]).res false := runB_eq rfl
/-- _law_pieces(_law_periods_here) -/
def c_law_pieces_1 : Rho → Rs D := (fComp [5, 6] (iLst (fV 1)) (tgT [(tgN 5), (tgN 6)]) fYes (fBin sAdd (fV 5) (fBin sMul (fV 6) (fV 3))))
def c_law_pieces_2 : Rho → Rs D := (fComp [8] (iRg1 (aCons (fCl (o1 sLen) (aCons (fV 1) aNil)) aNil)) (tgN 8) (toB (fBin sEq (fBin sIx (fV 7) (fV 8)) (fCl (o1 sMin) (aCons (fV 7) aNil)))) (fV 8))
def b_law_pieces_1 : Rho → Out := (fIf (fAnd (toB (fBin sGt (fCl (o1 sLen) (aCons (fT 2) aNil)) (fC (.int 0)))) (toB (fBin sEq (fBin sIx (fBin sIx (fT 2) (fUn sNeg (fC (.int 1)))) (fC (.int 0))) (fV 8))))
  (fSetP 2 (fV 3) (fUn sNeg (fC (.int 1))) (fC (.int 2)))
  (fAppW 2 (.r .g) (fLst (aCons (fV 8) (aCons (fV 3) (aCons (fV 3) aNil))))))
def c_law_pieces_3 : Rho → Rs D := (fComp [11, 12] (iLst (fSlice (fV 1) (fPart (some (fBin sAdd (fV 10) (fC (.int 1))))) (fPart none))) (tgT [(tgN 11), (tgN 12)]) fYes (fUn sNeg (fBin sDiv (fBin sSub (fV 5) (fV 11)) (fBin sSub (fV 6) (fV 12)))))
def b_law_pieces_2 : Rho → Out := (fSeq (fAsg 7 c_law_pieces_1)
  (fSeq (fAsg 9 c_law_pieces_2)
  (fSeq (fFor (iLst (fV 9)) (tgN 8)
  b_law_pieces_1)
  (fSeq (fAsg 10 (fBin sIx (fV 9) (fUn sNeg (fC (.int 1)))))
  (fSeq (fIf (toB (fBin sEq (fV 10) (fBin sSub (fCl (o1 sLen) (aCons (fV 1) aNil)) (fC (.int 1)))))
  (fSeq (fSetP 2 (fC .none) (fUn sNeg (fC (.int 1))) (fC (.int 2)))
  (fun ρ => .brk ρ))
  fSkip)
  (fSeq (fAsgT (tgT [(tgN 5), (tgN 6)]) (fBin sIx (fV 1) (fV 10)))
  (fSeq (fAsg 3 (fCl (o1 sMin) (aCons c_law_pieces_3 aNil)))
  (fSetP 2 (fBin sSub (fV 3) (fC (.int 1))) (fUn sNeg (fC (.int 1))) (fC (.int 2))))))))))
def g_law_pieces : Rho → Out := (fSeq (fAsg 1 (fCall f_law_lines (aCons (fV 0) aNil)))
  (fSeq (fAsgW 2 (.r (.r .g)) (fLst aNil))
  (fSeq (fAsg 3 (fC (.int 1)))
  (fSeq (fFor (iRg1 (aCons (fCl (o1 sLen) (aCons (fV 1) aNil)) aNil)) (tgN 4)
  b_law_pieces_2)
  (fRet (fSc (fT 2)))))))
def f_law_pieces : List D → Rs D := runB false 1 13 g_law_pieces
theorem u_law_pieces (y0 : D) : f_law_pieces [y0] = (g_law_pieces [.va y0, .un, .un, .un, .un, .un, .un, .un, .un, .un, .un, .un, .un]).res false := runB_eq rfl
/-- _law_asked(_law_rows, _law_finals) -/
def g_law_asked : Rho → Out := (fSeq (fIf (toB (fBin sEq (fCl (o1 sLen) (aCons (fV 0) aNil)) (fC (.int 0))))
  (fRet (fLst (aCons (fC (.int 0)) aNil)))
  fSkip)
  (fRet (fV 1)))
def f_law_asked : List D → Rs D := runB false 2 2 g_law_asked
theorem u_law_asked (y0 y1 : D) : f_law_asked [y0, y1] = (g_law_asked [.va y0, .va y1]).res false := runB_eq rfl
/-- _law_spoiled(_law_period_here, _law_number_here) -/
def g_law_spoiled : Rho → Out := (fSeq (fAsgT (tgT [(tgN 2), (tgN 3), (tgN 4)]) (fV 0))
  (fSeq (fAsg 5 (fC (.int 1)))
  (fSeq (fIf (toB (fBin sEq (fBin sMod (fCl (o1 sInt) (aCons (fV 1) aNil)) (fC (.int 2))) (fC (.int 1))))
  (fAsg 5 (fBin sAdd (fC (.int 1)) (fBin sMod (fCl (o1 sInt) (aCons (fBin sDiv (fV 1) (fC (.int 8))) aNil)) (fC (.int (10 ^ 20))))))
  fSkip)
  (fSeq (fAsg 6 (fBin sMod (fCl (o1 sInt) (aCons (fBin sDiv (fV 1) (fC (.int 2))) aNil)) (fC (.int 4))))
  (fSeq (fIf (toB (fBin sEq (fV 6) (fC (.int 0))))
  (fRet (fTup (aCons (fUn sNeg (fV 5)) (aCons (fV 3) (aCons (fV 4) aNil)))))
  fSkip)
  (fSeq (fIf (toB (fBin sEq (fV 6) (fC (.int 1))))
  (fRet (fTup (aCons (fV 2) (aCons (fUn sNeg (fV 5)) (aCons (fV 4) aNil)))))
  fSkip)
  (fSeq (fIf (toB (fBin sEq (fV 6) (fC (.int 2))))
  (fRet (fTup (aCons (fV 2) (aCons (fV 3) (aCons (fC (.int 0)) aNil)))))
  fSkip)
  (fRet (fTup (aCons (fV 2) (aCons (fV 3) (aCons (fUn sNeg (fV 5)) aNil))))))))))))
def f_law_spoiled : List D → Rs D := runB false 2 7 g_law_spoiled
theorem u_law_spoiled (y0 y1 : D) : f_law_spoiled [y0, y1] = (g_law_spoiled [.va y0, .va y1, .un, .un, .un, .un, .un]).res false := runB_eq rfl
/-- _law_due(_law_rows, _law_finals) -/
def b_law_due_1 : Rho → Out := (fMut 3 (aCons (fTup (aCons (fV 4) (aCons (fV 5) (aCons (fV 6) (aCons (fBin sIx (fBin sIx (fV 2) (fV 4)) (fC (.int 0))) (aCons (fBin sIx (fBin sIx (fV 2) (fV 4)) (fC (.int 1))) aNil)))))) aNil) mAppend)
def c_law_due_1 : Rho → Rs D := (fComp [7] (iLst (fCall f_law_asked (aCons (fV 0) (aCons (fV 1) aNil)))) (tgN 7) fYes (fCall f_law_least (aCons (fV 0) (aCons (fV 7) aNil))))
def g_law_due : Rho → Out := (fSeq (fAsg 2 (fCall f_law_lines (aCons (fV 0) aNil)))
  (fSeq (fAsgO 3 (fLst aNil))
  (fSeq (fFor (iLst (fCall f_law_pieces (aCons (fV 0) aNil))) (tgT [(tgN 4), (tgN 5), (tgN 6)])
  b_law_due_1)
  (fSeq (fAsg 8 c_law_due_1)
  (fFz 3 (fRet (fLst (aCons (fV 3) (aCons (fCl (o1 sLen) (aCons (fV 0) aNil)) (aCons (fBin sIx (fCall f_law_costs (aCons (fV 0) aNil)) (fUn sNeg (fC (.int 1)))) (aCons (fV 8) aNil)))))))))))
def f_law_due : List D → Rs D := runB false 2 9 g_law_due
theorem u_law_due (y0 y1 : D) : f_law_due [y0, y1] = (g_law_due [.va y0, .va y1, .un, .un, .un, .un, .un, .un, .un]).res false := runB_eq rfl
/-- least_values(lines, ranges, endings) -/
def c_least_values_1 : Rho → Rs D := (fComp [3] (iRg1 (aCons (fCl (o1 sLen) (aCons (fV 0) aNil)) aNil)) (tgN 3) (toB (fUn sNotN (fBin sIx (fV 1) (fV 3)))) (fTup (aCons (fBin sIx (fBin sIx (fV 1) (fV 3)) (fC (.int 1))) (aCons (fBin sIx (fV 0) (fV 3)) aNil))))
def w_least_values_1 : Rho → Rs Bool := (fAnd (toB (fUn sNotN (fBin sIx (fBin sIx (fV 4) (fV 6)) (fC (.int 0))))) (toB (fBin sLt (fBin sIx (fBin sIx (fV 4) (fV 6)) (fC (.int 0))) (fV 7))))
def b_least_values_1 : Rho → Out := (fAug 6 sAddI (fC (.int 1)))
def b_least_values_2 : Rho → Out := (fSeq (whileS w_least_values_1
  b_least_values_1 1000)
  (fSeq (fAsgT (tgT [(tgN 8), (tgN 9)]) (fBin sIx (fBin sIx (fV 4) (fV 6)) (fC (.int 1))))
  (fMut 5 (aCons (fBin sAdd (fV 8) (fBin sMul (fV 9) (fV 7))) aNil) mAppend)))
def g_least_values : Rho → Out := (fSeq (fAsg 4 c_least_values_1)
  (fSeq (fAsgO 5 (fLst aNil))
  (fSeq (fAsg 6 (fC (.int 0)))
  (fSeq (fFor (iLst (fV 2)) (tgN 7)
  b_least_values_2)
  (fFz 5 (fRet (fV 5)))))))
def f_least_values : List D → Rs D := runB false 3 10 g_least_values
theorem u_least_values (y0 y1 y2 : D) : f_least_values [y0, y1, y2] = (g_least_values [.va y0, .va y1, .va y2, .un, .un, .un, .un, .un, .un, .un]).res false := runB_eq rfl
/-- is_next(low, high, reach) -/
def g_is_next : Rho → Out := (fSeq (fIf (fOr (toB (fBin sLt (fV 0) (fC (.int 1)))) (fAnd (toB (fUn sNotN (fV 1))) (toB (fBin sLt (fV 1) (fV 0)))))
  (fRet (fC (.bool false)))
  fSkip)
  (fRet (fOrV (fUn sIsN (fV 2)) (fBin sLe (fV 0) (fBin sAdd (fV 2) (fC (.int 1)))))))
def f_is_next : List D → Rs D := runB false 3 3 g_is_next
theorem u_is_next (y0 y1 y2 : D) : f_is_next [y0, y1, y2] = (g_is_next [.va y0, .va y1, .va y2]).res false := runB_eq rfl
/-- first_gap(table, pieces, order, greatest) -/
def b_first_gap_1 : Rho → Out := (fIf (fAnd (toB (fBin sGt (fV 5) (fC (.int 0)))) (toB (fBin sDIn (fV 2) (fD (fBin sIx (fV 0) (fV 5))))))
  (fSeq (fIf (toB (fBin sGt (fV 6) (fBin sAdd (fV 4) (fC (.int 1)))))
  (fun ρ => .brk ρ)
  fSkip)
  (fSeq (fIf (toB (fUn sIsN (fV 7)))
  (fRet (fC .none))
  fSkip)
  (fAsg 4 (fCl (o2 sMax2) (aCons (fV 4) (aCons (fV 7) aNil))))))
  fSkip)
def g_first_gap : Rho → Out := (fSeq (fIf (toB (fBin sDNotIn (fV 2) (fD (fBin sIx (fV 0) (fUn sNeg (fC (.int 1)))))))
  (fRet (fC (.int 0)))
  fSkip)
  (fSeq (fAsg 4 (fC (.int 0)))
  (fSeq (fFor (iLst (fV 1)) (tgT [(tgN 5), (tgN 6), (tgN 7), (tgN 8), (tgN 9)])
  b_first_gap_1)
  (fSeq (fIf (fAnd (toB (fUn sNotN (fV 3))) (toB (fBin sGe (fV 4) (fV 3))))
  (fRet (fC .none))
  fSkip)
  (fRet (fBin sAdd (fV 4) (fC (.int 1))))))))
def f_first_gap : List D → Rs D := runB false 4 10 g_first_gap
theorem u_first_gap (y0 y1 y2 y3 : D) : f_first_gap [y0, y1, y2, y3] = (g_first_gap [.va y0, .va y1, .va y2, .va y3, .un, .un, .un, .un, .un, .un]).res false := runB_eq rfl
/-- turning_endings(pieces, greatest) -/
def b_turning_endings_1 : Rho → Out := (fSeq (fMut 2 (aCons (fV 4) aNil) mAppend)
  (fIf (toB (fUn sNotN (fV 5)))
  (fMut 2 (aCons (fBin sAdd (fV 5) (fC (.int 1))) aNil) mAppend)
  fSkip))
def c_turning_endings_1 : Rho → Rs D := (fComp [8] (iLst (fUn sSortSet (fB 2))) (tgN 8) (fOr (toB (fUn sIsN (fV 1))) (toB (fBin sLe (fV 8) (fV 1)))) (fV 8))
def g_turning_endings : Rho → Out := (fSeq (fAsgO 2 (fLst (aCons (fC (.int 0)) aNil)))
  (fSeq (fFor (iLst (fV 0)) (tgT [(tgN 3), (tgN 4), (tgN 5), (tgN 6), (tgN 7)])
  b_turning_endings_1)
  (fRet c_turning_endings_1)))
def f_turning_endings : List D → Rs D := runB false 2 9 g_turning_endings
theorem u_turning_endings (y0 y1 : D) : f_turning_endings [y0, y1] = (g_turning_endings [.va y0, .va y1, .un, .un, .un, .un, .un, .un, .un]).res false := runB_eq rfl
/-- firsts_at(table, pieces, total, ending) -/
def c_firsts_at_1 : Rho → Rs D := (fDComp [4] (iKeys' (fBin sIx (fV 0) (fUn sNeg (fC (.int 1))))) (tgN 4) fYes (fV 4) (fC (.bool true)))
def b_firsts_at_1 : Rho → Out := (fDPut 5 (fC (.bool true)) (fV 4))
def b_firsts_at_2 : Rho → Out := (fIf (fAnd (toB (fBin sLe (fV 7) (fV 3))) (fOr (toB (fUn sIsN (fV 8))) (toB (fBin sLe (fV 3) (fV 8)))))
  (fIf (toB (fBin sEq (fV 6) (fC (.int 0))))
  (fDPut 5 (fC (.bool true)) (fBin sAdd (fV 2) (fV 3)))
  (fFor (iKeys' (fBin sIx (fV 0) (fV 6))) (tgN 4)
  b_firsts_at_1))
  fSkip)
def g_firsts_at : Rho → Out := (fSeq (fIf (toB (fBin sEq (fV 3) (fC (.int 0))))
  (fRet c_firsts_at_1)
  fSkip)
  (fSeq (fAsgM 5 (fC (.dict [])))
  (fSeq (fFor (iLst (fV 1)) (tgT [(tgN 6), (tgN 7), (tgN 8), (tgN 9), (tgN 10)])
  b_firsts_at_2)
  (fRetM 5))))
def f_firsts_at : List D → Rs D := runB false 4 11 g_firsts_at
theorem u_firsts_at (y0 y1 y2 y3 : D) : f_firsts_at [y0, y1, y2, y3] = (g_firsts_at [.va y0, .va y1, .va y2, .va y3, .un, .un, .un, .un, .un, .un, .un]).res false := runB_eq rfl
/-- used_by(periods, start, order) -/
def w_used_by_1 : Rho → Rs Bool := (toB (fBin sLt (fV 4) (fV 2)))
def b_used_by_1 : Rho → Out := (fSeq (fAsg 4 (fBin sAdd (fV 4) (fBin sIx (fBin sIx (fV 0) (fV 3)) (fC (.int 0)))))
  (fAug 3 sAddI (fC (.int 1))))
def g_used_by : Rho → Out := (fSeq (fAsg 3 (fBin sAdd (fV 1) (fC (.int 1))))
  (fSeq (fAsg 4 (fBin sIx (fBin sIx (fV 0) (fV 1)) (fC (.int 0))))
  (fSeq (whileS w_used_by_1
  b_used_by_1 1000)
  (fRet (fV 3)))))
def f_used_by : List D → Rs D := runB false 3 5 g_used_by
theorem u_used_by (y0 y1 y2 : D) : f_used_by [y0, y1, y2] = (g_used_by [.va y0, .va y1, .va y2, .un, .un]).res false := runB_eq rfl
/-- range_ends(ranges, greatest) -/
def b_range_ends_1 : Rho → Out := (fIf (toB (fUn sNotN (fV 3)))
  (fSeq (fMut 2 (aCons (fBin sIx (fV 3) (fC (.int 0))) aNil) mAppend)
  (fIf (toB (fUn sNotN (fBin sIx (fV 3) (fC (.int 1)))))
  (fMut 2 (aCons (fBin sIx (fV 3) (fC (.int 1))) aNil) mAppend)
  fSkip))
  fSkip)
def c_range_ends_1 : Rho → Rs D := (fComp [4] (iLst (fUn sSortSet (fB 2))) (tgN 4) (fOr (toB (fUn sIsN (fV 1))) (toB (fBin sLe (fV 4) (fV 1)))) (fV 4))
def g_range_ends : Rho → Out := (fSeq (fAsgO 2 (fLst aNil))
  (fSeq (fFor (iLst (fV 0)) (tgN 3)
  b_range_ends_1)
  (fRet c_range_ends_1)))
def f_range_ends : List D → Rs D := runB false 2 5 g_range_ends
theorem u_range_ends (y0 y1 : D) : f_range_ends [y0, y1] = (g_range_ends [.va y0, .va y1, .un, .un, .un]).res false := runB_eq rfl
/-- check_both(first, second) -/
def g_check_both : Rho → Out := (fSeq (fDrop (fCallD f_check_periods .none (aCons (fV 0) aNil)))
  (fSeq (fDrop (fCallD f_check_periods .none (aCons (fV 1) aNil)))
  (fIf (fOr (toB (fBin sEq (fCl (o1 sLen) (aCons (fV 0) aNil)) (fC (.int 0)))) (toB (fBin sEq (fCl (o1 sLen) (aCons (fV 1) aNil)) (fC (.int 0)))))
  (fRaise 2 aNil)
  fSkip)))
def f_check_both : List D → Rs D := runB false 2 2 g_check_both
theorem u_check_both (y0 y1 : D) : f_check_both [y0, y1] = (g_check_both [.va y0, .va y1]).res false := runB_eq rfl
/-- check_known(periods) -/
def g_check_known : Rho → Out := (fSeq (fDrop (fCallD f_check_periods .none (aCons (fV 0) aNil)))
  (fIf (toB (fBin sEq (fCl (o1 sLen) (aCons (fV 0) aNil)) (fC (.int 0))))
  (fRaise 2 aNil)
  fSkip))
def f_check_known : List D → Rs D := runB false 1 1 g_check_known
theorem u_check_known (y0 : D) : f_check_known [y0] = (g_check_known [.va y0]).res false := runB_eq rfl
/-- telling_ending(first, second) -/
def b_telling_ending_1 : Rho → Out := (fIf (toB (fUn sNotN (fV 7)))
  (fMut 6 (aCons (fLst (aCons (fBin sIx (fV 7) (fC (.int 0))) (aCons (fBin sAdd (fBin sIx (fV 7) (fC (.int 0))) (fC (.int 1))) aNil))) aNil) mExtend)
  fSkip)
def b_telling_ending_2 : Rho → Out := (fIf (toB (fBin sNe (fBin sSub (fBin sIx (fV 8) (fV 11)) (fBin sIx (fV 9) (fV 11))) (fV 10)))
  (fRet (fBin sIx (fB 6) (fV 11)))
  fSkip)
def g_telling_ending : Rho → Out := (fSeq (fAsg 2 (fCall f_cost_lines (aCons (fV 0) aNil)))
  (fSeq (fAsg 3 (fCall f_cost_lines (aCons (fV 1) aNil)))
  (fSeq (fAsg 4 (fCall f_best_ranges (aCons (fV 2) aNil)))
  (fSeq (fAsg 5 (fCall f_best_ranges (aCons (fV 3) aNil)))
  (fSeq (fAsgO 6 (fLst aNil))
  (fSeq (fFor (iLst (fBin sAdd (fV 4) (fV 5))) (tgN 7)
  b_telling_ending_1)
  (fSeq (fAsgO 6 (fUn sSortSet (fB 6)))
  (fSeq (fAsg 8 (fSc (fCallB f_least_values (aCons (fV 2) (aCons (fV 4) (aCons (fB 6) aNil))))))
  (fSeq (fAsg 9 (fSc (fCallB f_least_values (aCons (fV 3) (aCons (fV 5) (aCons (fB 6) aNil))))))
  (fSeq (fAsg 10 (fBin sSub (fCallD f_least_cost (.int 0) (aCons (fV 0) aNil)) (fCallD f_least_cost (.int 0) (aCons (fV 1) aNil))))
  (fSeq (fFor (iRg1 (aCons (fCl (o1 sLen) (aCons (fB 6) aNil)) aNil)) (tgN 11)
  b_telling_ending_2)
  (fRet (fC .none)))))))))))))
def f_telling_ending : List D → Rs D := runB false 2 12 g_telling_ending
theorem u_telling_ending (y0 y1 : D) : f_telling_ending [y0, y1] = (g_telling_ending [.va y0, .va y1, .un, .un, .un, .un, .un, .un, .un, .un, .un, .un]).res false := runB_eq rfl
/-- stays_best(periods, low, high, plan) -/
def c_stays_best_1 : Rho → Rs D := (fComp [4] (iRg1 (aCons (fCl (o1 sLen) (aCons (fV 3) aNil)) aNil)) (tgN 4) (toB (fBin sGt (fBin sIx (fV 3) (fV 4)) (fC (.int 0)))) (fV 4))
def g_stays_best : Rho → Out := (fSeq (fIf (toB (fBin sEq (fV 2) (fV 1)))
  (fRet (fC (.bool true)))
  fSkip)
  (fSeq (fAsg 5 (fCl (o1 sMax) (aCons c_stays_best_1 aNil)))
  (fSeq (fIf (toB (fUn sIsN (fV 2)))
  (fRet (fBin sEq (fV 5) (fBin sSub (fCl (o1 sLen) (aCons (fV 3) aNil)) (fC (.int 1)))))
  fSkip)
  (fSeq (fAsgO 6 (fUn sList (fV 3)))
  (fSeq (fAugS 6 (fun i j => i + j) (fV 5) (fBin sSub (fV 2) (fV 1)))
  (fRet (fBin sEq (fCallB f_plan_cost (aCons (fV 0) (aCons (fB 6) aNil))) (fCallK f_least_cost (aCons (fV 0) aNil) (fV 2)))))))))
def f_stays_best : List D → Rs D := runB false 4 7 g_stays_best
theorem u_stays_best (y0 y1 y2 y3 : D) : f_stays_best [y0, y1, y2, y3] = (g_stays_best [.va y0, .va y1, .va y2, .va y3, .un, .un, .un]).res false := runB_eq rfl
/-- split_prefix(periods, orders) -/
def g_split_prefix : Rho → Out := (fSeq (fAsg 2 (fCall f_stocks (aCons (fV 0) (aCons (fV 1) aNil))))
  (fSeq (fAsg 3 (fBin sSub (fCl (o1 sSum) (aCons (fV 1) aNil)) (fCall f_total_demand (aCons (fV 0) aNil))))
  (fSeq (fIf (toB (fBin sGt (fV 3) (fC (.int 0))))
  (fRaise 6 (aCons (fV 3) aNil))
  fSkip)
  (fSeq (fAsg 4 (fC (.int 0)))
  (fSeq (fIf (toB (fBin sGt (fCl (o1 sLen) (aCons (fV 2) aNil)) (fC (.int 0))))
  (fAsg 4 (fBin sIx (fV 2) (fUn sNeg (fC (.int 1)))))
  fSkip)
  (fSeq (fAsg 5 (fSlice (fV 0) (fPart (some (fCl (o1 sLen) (aCons (fV 1) aNil)))) (fPart none)))
  (fRet (fTup (aCons (fBin sAdd (fCall f_plan_cost (aCons (fV 0) (aCons (fV 1) aNil))) (fCall f_carry_cost (aCons (fV 5) (aCons (fV 4) aNil)))) (aCons (fCall f_net_periods (aCons (fV 5) (aCons (fV 4) aNil))) aNil))))))))))
def f_split_prefix : List D → Rs D := runB false 2 6 g_split_prefix
theorem u_split_prefix (y0 y1 : D) : f_split_prefix [y0, y1] = (g_split_prefix [.va y0, .va y1, .un, .un, .un, .un]).res false := runB_eq rfl
/-- cost_difference(first, second) -/
def g_cost_difference : Rho → Out := (fSeq (fDrop (fCall f_check_both (aCons (fV 0) (aCons (fV 1) aNil))))
  (fSeq (fIf (toB (fUn sNotN (fCall f_telling_ending (aCons (fV 0) (aCons (fV 1) aNil)))))
  (fRet (fC .none))
  fSkip)
  (fRet (fBin sSub (fCallD f_least_cost (.int 0) (aCons (fV 0) aNil)) (fCallD f_least_cost (.int 0) (aCons (fV 1) aNil))))))
def f_cost_difference : List D → Rs D := runB false 2 2 g_cost_difference
theorem u_cost_difference (y0 y1 : D) : f_cost_difference [y0, y1] = (g_cost_difference [.va y0, .va y1]).res false := runB_eq rfl
/-- telling_pair(first, second) -/
def g_telling_pair : Rho → Out := (fSeq (fDrop (fCall f_check_both (aCons (fV 0) (aCons (fV 1) aNil))))
  (fSeq (fAsg 2 (fCall f_telling_ending (aCons (fV 0) (aCons (fV 1) aNil))))
  (fSeq (fIf (toB (fUn sIsN (fV 2)))
  (fRet (fSc (fC .none)))
  fSkip)
  (fSeq (fAsg 3 (fBin sAdd (fC (.int 1)) (fCl (o2 sMax2) (aCons (fCallK f_least_cost (aCons (fV 0) aNil) (fV 2)) (aCons (fCallK f_least_cost (aCons (fV 1) aNil) (fV 2)) aNil)))))
  (fRet (fTup (aCons (fLst aNil) (aCons (fLst (aCons (fTup (aCons (fV 2) (aCons (fV 3) (aCons (fC (.int 1)) aNil)))) aNil)) aNil))))))))
def f_telling_pair : List D → Rs D := runB true 2 4 g_telling_pair
theorem u_telling_pair (y0 y1 : D) : f_telling_pair [y0, y1] = (g_telling_pair [.va y0, .va y1, .un, .un]).res true := runB_eq rfl
/-- safe_orders(periods, cap) -/
def c_safe_orders_1 : Rho → Rs D := (fComp [6] (iLst (fV 5)) (tgN 6) (toB (fUn sIsN (fCall f_first_gap (aCons (fV 3) (aCons (fV 4) (aCons (fV 6) (aCons (fV 2) aNil))))))) (fV 6))
def g_safe_orders : Rho → Out := (fSeq (fAsg 2 (fCallK f_greatest_forced (aCons (fV 0) aNil) (fV 1)))
  (fSeq (fAsg 3 (fCall f_plan_table (aCons (fV 0) aNil)))
  (fSeq (fAsg 4 (fCall f_profile_pieces (aCons (fV 0) aNil)))
  (fSeq (fAsg 5 (fSortK (fD (fBin sIx (fV 3) (fUn sNeg (fC (.int 1)))))))
  (fRet c_safe_orders_1)))))
def f_safe_orders : List D → Rs D := runB true 2 7 g_safe_orders
theorem u_safe_orders (y0 y1 : D) : f_safe_orders [y0, y1] = (g_safe_orders [.va y0, .va y1, .un, .un, .un, .un, .un]).res true := runB_eq rfl
/-- prefix_cost(periods, orders, ending) -/
def g_prefix_cost : Rho → Out := (fSeq (fAsgT (tgT [(tgN 3), (tgN 4)]) (fCall f_split_prefix (aCons (fV 0) (aCons (fV 1) aNil))))
  (fSeq (fIf (toB (fBin sLt (fV 2) (fC (.int 0))))
  (fRaise 7 aNil)
  fSkip)
  (fSeq (fIf (fAnd (toB (fBin sGt (fV 2) (fC (.int 0)))) (toB (fBin sEq (fCl (o1 sLen) (aCons (fV 4) aNil)) (fC (.int 0)))))
  (fRet (fC .none))
  fSkip)
  (fRet (fBin sAdd (fV 3) (fCallK f_least_cost (aCons (fV 4) aNil) (fV 2)))))))
def f_prefix_cost : List D → Rs D := runB false 3 5 g_prefix_cost
theorem u_prefix_cost (y0 y1 y2 : D) : f_prefix_cost [y0, y1, y2] = (g_prefix_cost [.va y0, .va y1, .va y2, .un, .un]).res false := runB_eq rfl
/-- worst_ending(periods, floor, own, cap) -/
def b_worst_ending_1 : Rho → Out := (fIf (toB (fBin sGt (fBin sSub (fBin sIx (fV 9) (fV 13)) (fBin sIx (fV 10) (fV 13))) (fV 11)))
  (fSeq (fAsg 11 (fBin sSub (fBin sIx (fV 9) (fV 13)) (fBin sIx (fV 10) (fV 13))))
  (fAsg 12 (fBin sIx (fV 8) (fV 13))))
  fSkip)
def g_worst_ending : Rho → Out := (fSeq (fAsg 4 (fCall f_cost_lines (aCons (fV 0) aNil)))
  (fSeq (fAsg 5 (fCallK f_greatest_forced (aCons (fV 0) aNil) (fV 3)))
  (fSeq (fAsg 6 (fCall f_best_ranges (aCons (fV 2) aNil)))
  (fSeq (fAsg 7 (fCall f_best_ranges (aCons (fV 4) aNil)))
  (fSeq (fAsg 8 (fCall f_range_ends (aCons (fBin sAdd (fV 6) (fV 7)) (aCons (fV 5) aNil))))
  (fSeq (fIf (fAnd (toB (fUn sNotN (fV 5))) (toB (fBin sGt (fV 5) (fC (.int 0)))))
  (fAsg 8 (fUn sSortSet (fBin sAdd (fV 8) (fLst (aCons (fV 5) aNil)))))
  fSkip)
  (fSeq (fAsg 9 (fCall f_least_values (aCons (fV 2) (aCons (fV 6) (aCons (fV 8) aNil)))))
  (fSeq (fAsg 10 (fCall f_least_values (aCons (fV 4) (aCons (fV 7) (aCons (fV 8) aNil)))))
  (fSeq (fAsg 11 (fBin sSub (fV 1) (fCallD f_least_cost (.int 0) (aCons (fV 0) aNil))))
  (fSeq (fAsg 12 (fC (.int 0)))
  (fSeq (fFor (iRg1 (aCons (fCl (o1 sLen) (aCons (fV 8) aNil)) aNil)) (tgN 13)
  b_worst_ending_1)
  (fRet (fTup (aCons (fV 11) (aCons (fV 12) aNil)))))))))))))))
def f_worst_ending : List D → Rs D := runB false 4 14 g_worst_ending
theorem u_worst_ending (y0 y1 y2 y3 : D) : f_worst_ending [y0, y1, y2, y3] = (g_worst_ending [.va y0, .va y1, .va y2, .va y3, .un, .un, .un, .un, .un, .un, .un, .un, .un, .un]).res false := runB_eq rfl
/-- refutation(periods, order, cap) -/
def g_refutation : Rho → Out := (fSeq (fAsg 3 (fCallK f_greatest_forced (aCons (fV 0) aNil) (fV 2)))
  (fSeq (fAsg 4 (fCall f_first_gap (aCons (fCall f_plan_table (aCons (fV 0) aNil)) (aCons (fCall f_profile_pieces (aCons (fV 0) aNil)) (aCons (fV 1) (aCons (fV 3) aNil))))))
  (fSeq (fIf (toB (fUn sIsN (fV 4)))
  (fRet (fSc (fC .none)))
  fSkip)
  (fRet (fCallK f_standard_continuation (aCons (fV 0) (aCons (fV 4) aNil)) (fV 2))))))
def f_refutation : List D → Rs D := runB true 3 5 g_refutation
theorem u_refutation (y0 y1 y2 : D) : f_refutation [y0, y1, y2] = (g_refutation [.va y0, .va y1, .va y2, .un, .un]).res true := runB_eq rfl
/-- parting(periods, cap) -/
def c_parting_1 : Rho → Rs D := (fComp [5] (iLst (fSortK (fD (fBin sIx (fV 3) (fUn sNeg (fC (.int 1))))))) (tgN 5) fYes (fCall f_first_gap (aCons (fV 3) (aCons (fV 4) (aCons (fV 5) (aCons (fV 2) aNil))))))
def c_parting_2 : Rho → Rs D := (fComp [8] (iLst (fV 7)) (tgN 8) fYes (fCallK f_standard_continuation (aCons (fV 0) (aCons (fV 8) aNil)) (fV 1)))
def g_parting : Rho → Out := (fSeq (fAsg 2 (fCallK f_greatest_forced (aCons (fV 0) aNil) (fV 1)))
  (fSeq (fAsg 3 (fCall f_plan_table (aCons (fV 0) aNil)))
  (fSeq (fAsg 4 (fCall f_profile_pieces (aCons (fV 0) aNil)))
  (fSeq (fAsg 6 c_parting_1)
  (fSeq (fIf (toB (fBin sIn (fC .none) (fV 6)))
  (fRet (fSc (fC .none)))
  fSkip)
  (fSeq (fAsg 7 (fUn sSortSet (fBin sAdd (fLst (aCons (fC (.int 0)) aNil)) (fV 6))))
  (fRet c_parting_2)))))))
def f_parting : List D → Rs D := runB true 2 9 g_parting
theorem u_parting (y0 y1 : D) : f_parting [y0, y1] = (g_parting [.va y0, .va y1, .un, .un, .un, .un, .un, .un, .un]).res true := runB_eq rfl
/-- parting_pair(periods, cap) -/
def c_parting_pair_1 : Rho → Rs D := (fComp [7] (iLst (fV 6)) (tgN 7) fYes (fCall f_firsts_at (aCons (fV 3) (aCons (fV 4) (aCons (fV 5) (aCons (fV 7) aNil))))))
def c_parting_pair_2 : Rho → Rs D := (fComp [11] (iKeys' (fBin sIx (fV 8) (fV 9))) (tgN 11) fYes (fBin sDIn (fV 11) (fD (fBin sIx (fV 8) (fV 10)))))
def c_parting_pair_3 : Rho → Rs D := (fComp [7] (iTpl (fTup (aCons (fBin sIx (fV 6) (fV 9)) (aCons (fBin sIx (fV 6) (fV 10)) aNil)))) (tgN 7) fYes (fCallK f_standard_continuation (aCons (fV 0) (aCons (fV 7) aNil)) (fV 1)))
def b_parting_pair_1 : Rho → Out := (fIf (fNot (toB (fCl (o1 sAny) (aCons c_parting_pair_2 aNil))))
  (fSeq (fAsg 12 c_parting_pair_3)
  (fRet (fTup (aCons (fBin sIx (fV 12) (fC (.int 0))) (aCons (fBin sIx (fV 12) (fC (.int 1))) aNil)))))
  fSkip)
def b_parting_pair_2 : Rho → Out := (fFor (iRg2 (aCons (fBin sAdd (fV 9) (fC (.int 1))) (aCons (fCl (o1 sLen) (aCons (fV 6) aNil)) aNil))) (tgN 10)
  b_parting_pair_1)
def g_parting_pair : Rho → Out := (fSeq (fAsg 2 (fCallK f_greatest_forced (aCons (fV 0) aNil) (fV 1)))
  (fSeq (fAsg 3 (fCall f_plan_table (aCons (fV 0) aNil)))
  (fSeq (fAsg 4 (fCall f_profile_pieces (aCons (fV 0) aNil)))
  (fSeq (fAsg 5 (fCall f_total_demand (aCons (fV 0) aNil)))
  (fSeq (fAsg 6 (fCall f_turning_endings (aCons (fV 4) (aCons (fV 2) aNil))))
  (fSeq (fAsg 8 c_parting_pair_1)
  (fSeq (fFor (iRg1 (aCons (fCl (o1 sLen) (aCons (fV 6) aNil)) aNil)) (tgN 9)
  b_parting_pair_2)
  (fRet (fC .none)))))))))
def f_parting_pair : List D → Rs D := runB false 2 13 g_parting_pair
theorem u_parting_pair (y0 y1 : D) : f_parting_pair [y0, y1] = (g_parting_pair [.va y0, .va y1, .un, .un, .un, .un, .un, .un, .un, .un, .un, .un, .un]).res false := runB_eq rfl
/-- least_lookahead(periods, cap) -/
def b_least_lookahead_1 : Rho → Out := (fSeq (fAsg 3 (fCallK f_safe_orders (aCons (fSlice (fV 0) (fPart none) (fPart (some (fV 2)))) aNil) (fV 1)))
  (fIf (toB (fBin sGt (fCl (o1 sLen) (aCons (fV 3) aNil)) (fC (.int 0))))
  (fRet (fTup (aCons (fV 2) (aCons (fSc (fV 3)) aNil))))
  fSkip))
def g_least_lookahead : Rho → Out := (fSeq (fDrop (fCall f_check_known (aCons (fV 0) aNil)))
  (fSeq (fFor (iRg2 (aCons (fC (.int 1)) (aCons (fBin sAdd (fCl (o1 sLen) (aCons (fV 0) aNil)) (fC (.int 1))) aNil))) (tgN 2)
  b_least_lookahead_1)
  (fRet (fSc (fC .none)))))
def f_least_lookahead : List D → Rs D := runB true 2 4 g_least_lookahead
theorem u_least_lookahead (y0 y1 : D) : f_least_lookahead [y0, y1] = (g_least_lookahead [.va y0, .va y1, .un, .un]).res true := runB_eq rfl
/-- settled_prefix(periods, cap) -/
def c_settled_prefix_1 : Rho → Rs D := (fComp [2] (iRg1 (aCons (fBin sAdd (fCl (o1 sLen) (aCons (fV 0) aNil)) (fC (.int 1))) aNil)) (tgN 2) fYes (fLst aNil))
def b_settled_prefix_1 : Rho → Out := (fSeq (fAsg 6 (fCall f_used_by (aCons (fV 0) (aCons (fV 4) (aCons (fV 5) aNil)))))
  (fSeq (fAsg 7 (fBin sAdd (fBin sAdd (fLst (aCons (fV 5) aNil)) (fBin sMul (fLst (aCons (fC (.int 0)) aNil)) (fBin sSub (fBin sSub (fV 6) (fV 4)) (fC (.int 1))))) (fBin sIx (fB 3) (fV 6))))
  (fSeq (fAsg 8 (fBin sIx (fB 3) (fV 4)))
  (fIf (fOr (toB (fBin sGt (fCl (o1 sLen) (aCons (fV 7) aNil)) (fCl (o1 sLen) (aCons (fV 8) aNil)))) (fAnd (toB (fBin sEq (fCl (o1 sLen) (aCons (fV 7) aNil)) (fCl (o1 sLen) (aCons (fV 8) aNil)))) (toB (fBin sLtL (fV 7) (fV 8)))))
  (fSet 3 (fV 7) (fV 4))
  fSkip))))
def b_settled_prefix_2 : Rho → Out := (fFor (iLst (fCallK f_safe_orders (aCons (fSlice (fV 0) (fPart (some (fV 4))) (fPart none)) aNil) (fV 1))) (tgN 5)
  b_settled_prefix_1)
def g_settled_prefix : Rho → Out := (fSeq (fDrop (fCall f_check_known (aCons (fV 0) aNil)))
  (fSeq (fAsgO 3 c_settled_prefix_1)
  (fSeq (fFor (iRvR (fCl (o1 sLen) (aCons (fV 0) aNil))) (tgN 4)
  b_settled_prefix_2)
  (fRet (fUn sList (fBin sIx (fB 3) (fC (.int 0))))))))
def f_settled_prefix : List D → Rs D := runB true 2 9 g_settled_prefix
theorem u_settled_prefix (y0 y1 : D) : f_settled_prefix [y0, y1] = (g_settled_prefix [.va y0, .va y1, .un, .un, .un, .un, .un, .un, .un]).res true := runB_eq rfl
/-- regret_for(periods, orders, continuation) -/
def g_regret_for : Rho → Out := (fSeq (fDrop (fCallD f_check_periods .none (aCons (fV 0) aNil)))
  (fSeq (fDrop (fCallD f_check_periods .none (aCons (fV 2) aNil)))
  (fSeq (fDrop (fCall f_split_prefix (aCons (fV 0) (aCons (fV 1) aNil))))
  (fSeq (fAsg 3 (fBin sAdd (fV 0) (fV 2)))
  (fRet (fBin sSub (fCallD f_prefix_cost (.int 0) (aCons (fV 3) (aCons (fV 1) aNil))) (fCallD f_least_cost (.int 0) (aCons (fV 3) aNil))))))))
def f_regret_for : List D → Rs D := runB false 3 4 g_regret_for
theorem u_regret_for (y0 y1 y2 : D) : f_regret_for [y0, y1, y2] = (g_regret_for [.va y0, .va y1, .va y2, .un]).res false := runB_eq rfl
/-- regret(periods, orders, cap) -/
def c_regret_1 : Rho → Rs D := (fComp [6, 7] (iLst (fCall f_cost_lines (aCons (fV 4) aNil))) (tgT [(tgN 6), (tgN 7)]) fYes (fTup (aCons (fBin sAdd (fV 3) (fV 6)) (aCons (fV 7) aNil))))
def g_regret : Rho → Out := (fSeq (fDrop (fCallD f_check_periods .none (aCons (fV 0) aNil)))
  (fSeq (fIf (toB (fBin sEq (fCl (o1 sLen) (aCons (fV 0) aNil)) (fC (.int 0))))
  (fRaise 2 aNil)
  fSkip)
  (fSeq (fAsgT (tgT [(tgN 3), (tgN 4)]) (fCall f_split_prefix (aCons (fV 0) (aCons (fV 1) aNil))))
  (fSeq (fIf (fAnd (toB (fUn sIsN (fV 2))) (toB (fBin sEq (fCl (o1 sLen) (aCons (fV 4) aNil)) (fC (.int 0)))))
  (fRet (fSc (fC .none)))
  fSkip)
  (fSeq (fAsg 5 (fBin sAdd (fV 3) (fCallD f_least_cost (.int 0) (aCons (fV 4) aNil))))
  (fSeq (fAsgO 8 c_regret_1)
  (fSeq (fIf (toB (fUn sNotN (fV 2)))
  (fMut 8 (aCons (fTup (aCons (fBin sAdd (fV 5) (fV 2)) (aCons (fC (.int 0)) aNil))) aNil) mAppend)
  fSkip)
  (fSeq (fAsgT (tgT [(tgN 9), (tgN 10)]) (fSc (fCallB f_worst_ending (aCons (fV 0) (aCons (fV 5) (aCons (fB 8) (aCons (fV 2) aNil)))))))
  (fSeq (fIf (toB (fBin sEq (fV 10) (fC (.int 0))))
  (fRet (fTup (aCons (fV 9) (aCons (fLst aNil) aNil))))
  fSkip)
  (fSeq (fIf (toB (fUn sIsN (fV 2)))
  (fRet (fTup (aCons (fV 9) (aCons (fLst (aCons (fTup (aCons (fV 10) (aCons (fBin sAdd (fBin sAdd (fV 3) (fCallK f_least_cost (aCons (fV 4) aNil) (fV 10))) (fC (.int 1))) (aCons (fC (.int 1)) aNil)))) aNil)) aNil))))
  fSkip)
  (fRet (fTup (aCons (fV 9) (aCons (fLst (aCons (fTup (aCons (fV 10) (aCons (fV 2) (aCons (fC (.int 1)) aNil)))) aNil)) aNil))))))))))))))
def f_regret : List D → Rs D := runB true 3 11 g_regret
theorem u_regret (y0 y1 y2 : D) : f_regret [y0, y1, y2] = (g_regret [.va y0, .va y1, .va y2, .un, .un, .un, .un, .un, .un, .un, .un]).res true := runB_eq rfl
/-- parts(periods, continuations) -/
def b_parts_1 : Rho → Out := (fDrop (fCallD f_check_periods .none (aCons (fV 2) aNil)))
def c_parts_1 : Rho → Rs D := (fComp [5] (iLst (fV 3)) (tgN 5) (toB (fBin sIn (fV 5) (fV 4))) (fV 5))
def b_parts_2 : Rho → Out := (fSeq (fAsg 4 (fCallD f_first_orders (.int 0) (aCons (fBin sAdd (fV 0) (fV 2)) aNil)))
  (fAsg 3 c_parts_1))
def g_parts : Rho → Out := (fSeq (fDrop (fCallD f_check_periods .none (aCons (fV 0) aNil)))
  (fSeq (fIf (toB (fBin sEq (fCl (o1 sLen) (aCons (fV 0) aNil)) (fC (.int 0))))
  (fRaise 2 aNil)
  fSkip)
  (fSeq (fFor (iLst (fV 1)) (tgN 2)
  b_parts_1)
  (fSeq (fIf (toB (fBin sEq (fCl (o1 sLen) (aCons (fV 1) aNil)) (fC (.int 0))))
  (fRet (fC (.bool false)))
  fSkip)
  (fSeq (fAsg 3 (fCallD f_first_orders (.int 0) (aCons (fBin sAdd (fV 0) (fBin sIx (fV 1) (fC (.int 0)))) aNil)))
  (fSeq (fFor (iLst (fSlice (fV 1) (fPart (some (fC (.int 1)))) (fPart none))) (tgN 2)
  b_parts_2)
  (fRet (fBin sEq (fCl (o1 sLen) (aCons (fV 3) aNil)) (fC (.int 0))))))))))
def f_parts : List D → Rs D := runB false 2 6 g_parts
theorem u_parts (y0 y1 : D) : f_parts [y0, y1] = (g_parts [.va y0, .va y1, .un, .un, .un, .un]).res false := runB_eq rfl
/-- certificate(periods, order, cap) -/
def b_certificate_1 : Rho → Out := (fIf (fAnd (toB (fBin sGt (fV 7) (fC (.int 0)))) (fAnd (toB (fBin sDIn (fV 1) (fD (fBin sIx (fV 5) (fV 7))))) (fOr (toB (fUn sIsN (fV 4))) (toB (fBin sLe (fV 8) (fV 4))))))
  (fSeq (fAsg 12 (fBin sAdd (fV 8) (fCall f_total_demand (aCons (fSlice (fV 0) (fPart (some (fV 7))) (fPart none)) aNil))))
  (fSeq (fAsg 13 (fBin sAdd (fBin sAdd (fBin sDGet (fD (fBin sIx (fV 5) (fV 7))) (fV 1)) (fLst (aCons (fV 12) aNil))) (fBin sMul (fLst (aCons (fC (.int 0)) aNil)) (fBin sSub (fBin sSub (fCl (o1 sLen) (aCons (fV 0) aNil)) (fV 7)) (fC (.int 1))))))
  (fSeq (fAsg 14 (fV 9))
  (fSeq (fIf (fAnd (toB (fUn sNotN (fV 4))) (fOr (toB (fUn sIsN (fV 9))) (toB (fBin sGt (fV 9) (fV 4)))))
  (fAsg 14 (fV 4))
  fSkip)
  (fMut 6 (aCons (fTup (aCons (fV 8) (aCons (fV 14) (aCons (fV 13) aNil)))) aNil) mAppend)))))
  fSkip)
def g_certificate : Rho → Out := (fSeq (fAsg 3 (fCallK f_refutation (aCons (fV 0) (aCons (fV 1) aNil)) (fV 2)))
  (fSeq (fIf (toB (fUn sNotN (fV 3)))
  (fRaise 9 (aCons (fV 3) aNil))
  fSkip)
  (fSeq (fAsg 4 (fCallK f_greatest_forced (aCons (fV 0) aNil) (fV 2)))
  (fSeq (fAsg 5 (fCall f_plan_table (aCons (fV 0) aNil)))
  (fSeq (fAsgO 6 (fLst (aCons (fTup (aCons (fC (.int 0)) (aCons (fC (.int 0)) (aCons (fUn sList (fBin sDGet (fD (fBin sIx (fV 5) (fUn sNeg (fC (.int 1))))) (fV 1))) aNil)))) aNil)))
  (fSeq (fFor (iLst (fCall f_profile_pieces (aCons (fV 0) aNil))) (tgT [(tgN 7), (tgN 8), (tgN 9), (tgN 10), (tgN 11)])
  b_certificate_1)
  (fRetW 6 (.c (.c .g (.c .g (.c (.r .g) (.r .g)))) (.r .g)))))))))
def f_certificate : List D → Rs D := runB true 3 15 g_certificate
theorem u_certificate (y0 y1 y2 : D) : f_certificate [y0, y1, y2] = (g_certificate [.va y0, .va y1, .va y2, .un, .un, .un, .un, .un, .un, .un, .un, .un, .un, .un, .un]).res true := runB_eq rfl
/-- first_failure(periods, order, cap) -/
def g_first_failure : Rho → Out := (fSeq (fDrop (fCall f_check_known (aCons (fV 0) aNil)))
  (fSeq (fAsg 3 (fCallK f_refutation (aCons (fV 0) (aCons (fV 1) aNil)) (fV 2)))
  (fSeq (fIf (toB (fUn sIsN (fV 3)))
  (fRet (fC .none))
  fSkip)
  (fSeq (fIf (toB (fBin sEq (fCl (o1 sLen) (aCons (fV 3) aNil)) (fC (.int 0))))
  (fRaise 9 (aCons (fLst aNil) aNil))
  fSkip)
  (fRet (fBin sIx (fBin sIx (fV 3) (fC (.int 0))) (fC (.int 0))))))))
def f_first_failure : List D → Rs D := runB false 3 4 g_first_failure
theorem u_first_failure (y0 y1 y2 : D) : f_first_failure [y0, y1, y2] = (g_first_failure [.va y0, .va y1, .va y2, .un]).res false := runB_eq rfl
/-- least_regret(periods, cap) -/
def b_least_regret_1 : Rho → Out := (fSeq (fAug 3 sAddI (fV 4))
  (fIf (fOr (toB (fBin sEq (fCl (o1 sLen) (aCons (fB 2) aNil)) (fC (.int 0)))) (toB (fBin sNe (fBin sIx (fB 2) (fUn sNeg (fC (.int 1)))) (fV 3))))
  (fMut 2 (aCons (fV 3) aNil) mAppend)
  fSkip))
def c_least_regret_1 : Rho → Rs D := (fComp [7] (iLst (fV 2)) (tgN 7) fYes (fBin sIx (fCallK f_regret (aCons (fV 0) (aCons (fLst (aCons (fV 7) aNil)) aNil)) (fV 1)) (fC (.int 0))))
def c_least_regret_2 : Rho → Rs D := (fComp [10] (iRg1 (aCons (fCl (o1 sLen) (aCons (fV 2) aNil)) aNil)) (tgN 10) (toB (fBin sEq (fBin sIx (fV 8) (fV 10)) (fV 9))) (fBin sIx (fV 2) (fV 10)))
def g_least_regret : Rho → Out := (fSeq (fDrop (fCallD f_check_periods .none (aCons (fV 0) aNil)))
  (fSeq (fIf (toB (fBin sEq (fCl (o1 sLen) (aCons (fV 0) aNil)) (fC (.int 0))))
  (fRaise 2 aNil)
  fSkip)
  (fSeq (fIf (fAnd (toB (fUn sIsN (fV 1))) (toB (fBin sEq (fCl (o1 sLen) (aCons (fV 0) aNil)) (fC (.int 1)))))
  (fRet (fSc (fC .none)))
  fSkip)
  (fSeq (fAsgO 2 (fLst aNil))
  (fSeq (fAsg 3 (fC (.int 0)))
  (fSeq (fFor (iLst (fV 0)) (tgT [(tgN 4), (tgN 5), (tgN 6)])
  b_least_regret_1)
  (fSeq (fFz 2 (fAsg 8 c_least_regret_1))
  (fSeq (fAsg 9 (fCl (o1 sMin) (aCons (fV 8) aNil)))
  (fRet (fTup (aCons (fV 9) (aCons c_least_regret_2 aNil))))))))))))
def f_least_regret : List D → Rs D := runB true 2 11 g_least_regret
theorem u_least_regret (y0 y1 : D) : f_least_regret [y0, y1] = (g_least_regret [.va y0, .va y1, .un, .un, .un, .un, .un, .un, .un, .un, .un]).res true := runB_eq rfl
/-- greatest_cap(periods, order) -/
def g_greatest_cap : Rho → Out := (fSeq (fAsg 2 (fCall f_first_failure (aCons (fV 0) (aCons (fV 1) (aCons (fC .none) aNil)))))
  (fSeq (fIf (toB (fUn sIsN (fV 2)))
  (fRet (fC .none))
  fSkip)
  (fRet (fBin sSub (fCallK f_least_cost (aCons (fV 0) aNil) (fV 2)) (fCallD f_least_cost (.int 0) (aCons (fV 0) aNil))))))
def f_greatest_cap : List D → Rs D := runB false 2 3 g_greatest_cap
theorem u_greatest_cap (y0 y1 : D) : f_greatest_cap [y0, y1] = (g_greatest_cap [.va y0, .va y1, .un]).res false := runB_eq rfl
/-- greatest_demand(periods, order, cap) -/
def g_greatest_demand : Rho → Out := (fSeq (fAsg 3 (fCall f_first_failure (aCons (fV 0) (aCons (fV 1) (aCons (fV 2) aNil)))))
  (fSeq (fIf (toB (fUn sIsN (fV 3)))
  (fRet (fC .none))
  fSkip)
  (fRet (fBin sSub (fV 3) (fC (.int 1))))))
def f_greatest_demand : List D → Rs D := runB false 3 4 g_greatest_demand
theorem u_greatest_demand (y0 y1 y2 : D) : f_greatest_demand [y0, y1, y2] = (g_greatest_demand [.va y0, .va y1, .va y2, .un]).res false := runB_eq rfl
/-- _law_allowed(_law_actual, _law_ceiling) -/
def b_law_allowed_1 : Rho → Out := (fSeq (fIf (fOr (fNot (toB (fUn (sIsT "tuple") (fV 2)))) (fOr (toB (fBin sNe (fCl (o1 sLen) (aCons (fV 2) aNil)) (fC (.int 3)))) (fNot (toB (fCall f_law_integers (aCons (fUn sList (fV 2)) aNil))))))
  (fRet (fC (.bool false)))
  fSkip)
  (fIf (fOr (toB (fBin sLt (fBin sIx (fV 2) (fC (.int 0))) (fC (.int 0)))) (fOr (toB (fBin sLt (fBin sIx (fV 2) (fC (.int 1))) (fC (.int 0)))) (fOr (toB (fBin sLt (fBin sIx (fV 2) (fC (.int 2))) (fC (.int 1)))) (fAnd (toB (fUn sNotN (fV 1))) (toB (fBin sGt (fBin sIx (fV 2) (fC (.int 1))) (fV 1)))))))
  (fRet (fC (.bool false)))
  fSkip))
def g_law_allowed : Rho → Out := (fSeq (fIf (fNot (toB (fUn (sIsT "list") (fV 0))))
  (fRet (fC (.bool false)))
  fSkip)
  (fSeq (fFor (iLst (fV 0)) (tgN 2)
  b_law_allowed_1)
  (fRet (fC (.bool true)))))
def f_law_allowed : List D → Rs D := runB false 2 3 g_law_allowed
theorem u_law_allowed (y0 y1 : D) : f_law_allowed [y0, y1] = (g_law_allowed [.va y0, .va y1, .un]).res false := runB_eq rfl
/-- _law_orders(_law_periods, _law_count, _law_number_here) -/
def c_law_orders_k27_1 : Rho → Rs D := (fComp [3, 4, 5] (iLst (fV 0)) (tgT [(tgN 3), (tgN 4), (tgN 5)]) fYes (fV 3))
def c_law_orders_k27_2 : Rho → Rs D := (fComp [3, 4, 5] (iLst (fSlice (fV 0) (fPart none) (fPart (some (fBin sAdd (fV 10) (fV 13)))))) (tgT [(tgN 3), (tgN 4), (tgN 5)]) fYes (fV 3))
def b_law_orders_k27_1 : Rho → Out := (fSeq (fAsg 11 (fCl (o2 sMax2) (aCons (fC (.int 0)) (aCons (fBin sSub (fBin sIx (fBin sIx (fV 0) (fV 10)) (fC (.int 0))) (fV 8)) aNil))))
  (fSeq (fAsg 12 (fBin sSub (fV 6) (fCl (o1 sSum) (aCons (fB 7) aNil))))
  (fSeq (fAsg 13 (fBin sMod (fCl (o1 sInt) (aCons (fV 9) aNil)) (fC (.int 6))))
  (fSeq (fAsg 9 (fBin sDiv (fV 9) (fC (.int 6))))
  (fSeq (fAsg 14 (fV 11))
  (fSeq (fIf (toB (fBin sEq (fV 13) (fC (.int 1))))
  (fAsg 14 (fBin sAdd (fV 11) (fBin sMod (fCl (o1 sInt) (aCons (fV 9) aNil)) (fBin sAdd (fV 11) (fC (.int 3))))))
  fSkip)
  (fSeq (fIf (toB (fBin sGt (fV 13) (fC (.int 1))))
  (fSeq (fAsg 15 (fCl (o1 sSum) (aCons c_law_orders_k27_2 aNil)))
  (fAsg 14 (fCl (o2 sMax2) (aCons (fV 11) (aCons (fBin sSub (fV 15) (fCl (o1 sSum) (aCons (fB 7) aNil))) aNil)))))
  fSkip)
  (fSeq (fAsg 14 (fCl (o2 sMin2) (aCons (fV 14) (aCons (fV 12) aNil))))
  (fSeq (fMut 7 (aCons (fV 14) aNil) mAppend)
  (fAsg 8 (fBin sSub (fBin sAdd (fV 8) (fV 14)) (fBin sIx (fBin sIx (fV 0) (fV 10)) (fC (.int 0))))))))))))))
def g_law_orders_k27 : Rho → Out := (fSeq (fAsg 6 (fCl (o1 sSum) (aCons c_law_orders_k27_1 aNil)))
  (fSeq (fAsgO 7 (fLst aNil))
  (fSeq (fAsg 8 (fC (.int 0)))
  (fSeq (fAsg 9 (fV 2))
  (fSeq (fFor (iRg1 (aCons (fV 1) aNil)) (tgN 10)
  b_law_orders_k27_1)
  (fFz 7 (fRet (fV 7))))))))
def f_law_orders_k27 : List D → Rs D := runB false 3 16 g_law_orders_k27
theorem u_law_orders_k27 (y0 y1 y2 : D) : f_law_orders_k27 [y0, y1, y2] = (g_law_orders_k27 [.va y0, .va y1, .va y2, .un, .un, .un, .un, .un, .un, .un, .un, .un, .un, .un, .un, .un]).res false := runB_eq rfl
/-- _law_later(_law_script, _law_start, _law_count, _law_scale, _law_ceiling) -/
def b_law_later_1 : Rho → Out := (fSeq (fAsgT (tgT [(tgN 8), (tgN 9), (tgN 10)]) (fCall f_law_period (aCons (fCall f_law_number (aCons (fV 0) (aCons (fBin sAdd (fV 1) (fV 7)) aNil))) (aCons (fV 3) aNil))))
  (fSeq (fAsg 11 (fC (.int 4)))
  (fSeq (fIf (toB (fBin sGt (fV 6) (fC (.int 0))))
  (fAsg 11 (fBin sMod (fCl (o1 sInt) (aCons (fV 6) aNil)) (fC (.int 5))))
  fSkip)
  (fSeq (fAsg 6 (fBin sDiv (fV 6) (fC (.int 5))))
  (fSeq (fIf (fOr (toB (fBin sEq (fV 11) (fC (.int 0)))) (toB (fBin sEq (fV 11) (fC (.int 2)))))
  (fAsg 8 (fBin sMul (fV 8) (fC (.int 20))))
  fSkip)
  (fSeq (fIf (fOr (toB (fBin sEq (fV 11) (fC (.int 1)))) (toB (fBin sEq (fV 11) (fC (.int 2)))))
  (fAsg 9 (fBin sMul (fV 9) (fC (.int 1000))))
  fSkip)
  (fSeq (fIf (fAnd (toB (fUn sNotN (fV 4))) (fOr (toB (fBin sEq (fV 11) (fC (.int 3)))) (toB (fBin sGt (fV 9) (fV 4)))))
  (fAsg 9 (fV 4))
  fSkip)
  (fMut 5 (aCons (fTup (aCons (fV 8) (aCons (fV 9) (aCons (fV 10) aNil)))) aNil) mAppend))))))))
def g_law_later : Rho → Out := (fSeq (fAsgO 5 (fLst aNil))
  (fSeq (fAsg 6 (fBin sDiv (fCall f_law_number (aCons (fV 0) (aCons (fC (.int 2)) aNil))) (fC (.int 1000))))
  (fSeq (fFor (iRg1 (aCons (fV 2) aNil)) (tgN 7)
  b_law_later_1)
  (fFz 5 (fRet (fV 5))))))
def f_law_later : List D → Rs D := runB false 5 12 g_law_later
theorem u_law_later (y0 y1 y2 y3 y4 : D) : f_law_later [y0, y1, y2, y3, y4] = (g_law_later [.va y0, .va y1, .va y2, .va y3, .va y4, .un, .un, .un, .un, .un, .un, .un]).res false := runB_eq rfl
/-- _law_entries(_law_plans) -/
def c_law_entries_1 : Rho → Rs D := (fComp [1, 2] (iLst (fV 0)) (tgT [(tgN 1), (tgN 2)]) fYes (fV 1))
def b_law_entries_1 : Rho → Out := (fIf (fAnd (toB (fBin sEq (fV 1) (fV 3))) (toB (fBin sNotIn (fBin sIx (fV 2) (fC (.int 0))) (fB 4))))
  (fMut 4 (aCons (fBin sIx (fV 2) (fC (.int 0))) aNil) mAppend)
  fSkip)
def g_law_entries : Rho → Out := (fSeq (fAsg 3 (fCl (o1 sMin) (aCons c_law_entries_1 aNil)))
  (fSeq (fAsgO 4 (fLst aNil))
  (fSeq (fFor (iLst (fV 0)) (tgT [(tgN 1), (tgN 2)])
  b_law_entries_1)
  (fRet (fCl (o1 sSorted) (aCons (fB 4) aNil))))))
def f_law_entries : List D → Rs D := runB false 1 5 g_law_entries
theorem u_law_entries (y0 : D) : f_law_entries [y0] = (g_law_entries [.va y0, .un, .un, .un, .un]).res false := runB_eq rfl
/-- _law_begun(_law_plans, _law_order, _law_number_here) -/
def c_law_begun_1 : Rho → Rs D := (fComp [3, 4] (iLst (fV 0)) (tgT [(tgN 3), (tgN 4)]) fYes (fV 3))
def c_law_begun_2 : Rho → Rs D := (fComp [3, 4] (iLst (fV 0)) (tgT [(tgN 3), (tgN 4)]) (toB (fBin sEq (fV 3) (fV 5))) (fV 4))
def c_law_begun_3 : Rho → Rs D := (fComp [4] (iLst (fV 6)) (tgN 4) (toB (fBin sEq (fBin sIx (fV 4) (fC (.int 0))) (fV 1))) (fV 4))
def c_law_begun_4 : Rho → Rs D := (fComp [3, 4] (iLst (fV 0)) (tgT [(tgN 3), (tgN 4)]) (toB (fBin sEq (fBin sIx (fV 4) (fC (.int 0))) (fV 1))) (fV 4))
def g_law_begun : Rho → Out := (fSeq (fAsg 5 (fCl (o1 sMin) (aCons c_law_begun_1 aNil)))
  (fSeq (fAsg 6 c_law_begun_2)
  (fSeq (fAsg 7 c_law_begun_3)
  (fSeq (fIf (toB (fBin sEq (fBin sMod (fCl (o1 sInt) (aCons (fV 2) aNil)) (fC (.int 6))) (fC (.int 1))))
  (fAsg 7 c_law_begun_4)
  fSkip)
  (fSeq (fIf (toB (fBin sEq (fCl (o1 sLen) (aCons (fV 7) aNil)) (fC (.int 0))))
  (fAsg 7 (fV 6))
  fSkip)
  (fRet (fBin sIx (fV 7) (fBin sMod (fCl (o1 sInt) (aCons (fBin sDiv (fV 2) (fC (.int 6))) aNil)) (fCl (o1 sLen) (aCons (fV 7) aNil))))))))))
def f_law_begun : List D → Rs D := runB false 3 8 g_law_begun
theorem u_law_begun (y0 y1 y2 : D) : f_law_begun [y0, y1, y2] = (g_law_begun [.va y0, .va y1, .va y2, .un, .un, .un, .un, .un]).res false := runB_eq rfl
/-- _law_top(_law_end, _law_low, _law_edge, _law_number_here) -/
def g_law_top : Rho → Out := (fSeq (fAsg 4 (fV 0))
  (fSeq (fAsg 5 (fBin sAdd (fV 1) (fBin sMod (fCl (o1 sInt) (aCons (fBin sDiv (fV 3) (fC (.int 8))) aNil)) (fC (.int 5)))))
  (fSeq (fIf (fAnd (toB (fUn sNotN (fV 2))) (fAnd (toB (fBin sLe (fV 1) (fV 2))) (fOr (toB (fUn sIsN (fV 0))) (toB (fBin sGt (fV 0) (fV 2))))))
  (fAsg 4 (fV 2))
  fSkip)
  (fSeq (fIf (fAnd (toB (fUn sNotN (fV 2))) (toB (fBin sEq (fBin sMod (fCl (o1 sInt) (aCons (fV 3) aNil)) (fC (.int 8))) (fC (.int 7)))))
  (fAsg 5 (fBin sAdd (fBin sSub (fV 2) (fC (.int 1))) (fBin sMod (fCl (o1 sInt) (aCons (fBin sDiv (fV 3) (fC (.int 8))) aNil)) (fC (.int 3)))))
  fSkip)
  (fSeq (fIf (fAnd (toB (fUn sNotN (fV 0))) (toB (fBin sEq (fBin sMod (fCl (o1 sInt) (aCons (fV 3) aNil)) (fC (.int 8))) (fC (.int 5)))))
  (fRet (fBin sAdd (fV 0) (fC (.int 1))))
  fSkip)
  (fRet (fBin sIx (fLst (aCons (fV 4) (aCons (fV 4) (aCons (fV 0) (aCons (fV 1) (aCons (fV 5) (aCons (fV 4) (aCons (fC .none) (aCons (fV 5) aNil))))))))) (fBin sMod (fCl (o1 sInt) (aCons (fV 3) aNil)) (fC (.int 8))))))))))
def f_law_top : List D → Rs D := runB false 4 6 g_law_top
theorem u_law_top (y0 y1 y2 y3 : D) : f_law_top [y0, y1, y2, y3] = (g_law_top [.va y0, .va y1, .va y2, .va y3, .un, .un]).res false := runB_eq rfl
/-- _law_planned(_law_rows, _law_table, _law_order, _law_start, _law_final, _law_number_here) -/
def c_law_planned_1 : Rho → Rs D := (fComp [6, 7, 8] (iLst (fSlice (fV 0) (fPart (some (fV 3))) (fPart none))) (tgT [(tgN 6), (tgN 7), (tgN 8)]) fYes (fV 6))
def c_law_planned_2 : Rho → Rs D := (fComp [10] (iRg1 (aCons (fBin sSub (fBin sSub (fCl (o1 sLen) (aCons (fV 0) aNil)) (fV 3)) (fC (.int 1))) aNil)) (tgN 10) fYes (fC (.int 0)))
def g_law_planned : Rho → Out := (fSeq (fIf (toB (fBin sLt (fV 4) (fC (.int 1))))
  (fRet (fCall f_law_begun (aCons (fBin sIx (fV 1) (fCl (o1 sLen) (aCons (fV 0) aNil))) (aCons (fV 2) (aCons (fV 5) aNil)))))
  fSkip)
  (fSeq (fAsg 9 (fBin sAdd (fV 4) (fCl (o1 sSum) (aCons c_law_planned_1 aNil))))
  (fSeq (fAsg 11 (fBin sAdd (fLst (aCons (fV 9) aNil)) c_law_planned_2))
  (fSeq (fIf (toB (fBin sEq (fV 3) (fC (.int 0))))
  (fRet (fV 11))
  fSkip)
  (fRet (fBin sAdd (fCall f_law_begun (aCons (fBin sIx (fV 1) (fV 3)) (aCons (fV 2) (aCons (fV 5) aNil)))) (fV 11)))))))
def f_law_planned : List D → Rs D := runB false 6 12 g_law_planned
theorem u_law_planned (y0 y1 y2 y3 y4 y5 : D) : f_law_planned [y0, y1, y2, y3, y4, y5] = (g_law_planned [.va y0, .va y1, .va y2, .va y3, .va y4, .va y5, .un, .un, .un, .un, .un, .un]).res false := runB_eq rfl
/-- _law_picked(_law_table, _law_pieces_here, _law_order, _law_low, _law_number_here) -/
def b_law_picked_1 : Rho → Out := (fIf (fAnd (toB (fBin sLe (fV 8) (fCl (o2 sMax2) (aCons (fC (.int 1)) (aCons (fV 3) aNil))))) (fOr (toB (fUn sIsN (fV 9))) (toB (fBin sLe (fV 3) (fV 9)))))
  (fSeq (fMut 5 (aCons (fTup (aCons (fV 7) (aCons (fV 9) aNil))) aNil) mAppend)
  (fIf (fAnd (toB (fBin sGt (fV 7) (fC (.int 0)))) (toB (fBin sIn (fV 2) (fCall f_law_entries (aCons (fBin sIx (fV 0) (fV 7)) aNil)))))
  (fMut 6 (aCons (fTup (aCons (fV 7) (aCons (fV 9) aNil))) aNil) mAppend)
  fSkip))
  fSkip)
def g_law_picked : Rho → Out := (fSeq (fAsgO 5 (fLst aNil))
  (fSeq (fAsgO 6 (fLst aNil))
  (fSeq (fFor (iLst (fV 1)) (tgT [(tgN 7), (tgN 8), (tgN 9)])
  b_law_picked_1)
  (fSeq (fIf (toB (fBin sEq (fCl (o1 sLen) (aCons (fB 6) aNil)) (fC (.int 0))))
  (fFz 5 (fAsg 6 (fV 5)))
  fSkip)
  (fRet (fBin sIx (fB 6) (fBin sMod (fCl (o1 sInt) (aCons (fV 4) aNil)) (fCl (o1 sLen) (aCons (fB 6) aNil)))))))))
def f_law_picked : List D → Rs D := runB false 5 10 g_law_picked
theorem u_law_picked (y0 y1 y2 y3 y4 : D) : f_law_picked [y0, y1, y2, y3, y4] = (g_law_picked [.va y0, .va y1, .va y2, .va y3, .va y4, .un, .un, .un, .un, .un]).res false := runB_eq rfl
/-- _law_built(_law_rows, _law_table, _law_order, _law_ceiling, _law_number_here) -/
def c_law_built_1 : Rho → Rs D := (fComp [8, 9] (iLst (fCall f_law_lines (aCons (fV 0) aNil))) (tgT [(tgN 8), (tgN 9)]) fYes (fBin sDiv (fBin sSub (fV 7) (fV 8)) (fV 9)))
def b_law_built_1 : Rho → Out := (fSeq (fAsg 15 (fOrV (fV 13) (fAndV (fUn sNotN (fV 6)) (fBin sGe (fV 12) (fV 6)))))
  (fSeq (fIf (fOr (toB (fBin sEq (fBin sMod (fCl (o1 sInt) (aCons (fV 11) aNil)) (fC (.int 6))) (fC (.int 5)))) (fAnd (toT (fV 15)) (toB (fBin sNe (fBin sMod (fCl (o1 sInt) (aCons (fV 11) aNil)) (fC (.int 3))) (fC (.int 1))))))
  (fun ρ => .brk ρ)
  fSkip)
  (fSeq (fAsg 16 (fBin sAdd (fV 12) (fBin sIx (fLst (aCons (fC (.int 1)) (aCons (fC (.int 1)) (aCons (fC (.int 1)) (aCons (fC (.int 1)) (aCons (fC (.int 1)) (aCons (fC (.int 1)) (aCons (fC (.int 0)) (aCons (fC (.int 2)) (aCons (fBin sSub (fC (.int 1)) (fV 12)) aNil)))))))))) (fBin sMod (fCl (o1 sInt) (aCons (fBin sDiv (fV 11) (fC (.int 6))) aNil)) (fC (.int 9))))))
  (fSeq (fAsg 11 (fBin sDiv (fV 11) (fC (.int 54))))
  (fSeq (fAsgT (tgT [(tgN 17), (tgN 18)]) (fCall f_law_picked (aCons (fV 1) (aCons (fV 5) (aCons (fV 2) (aCons (fV 16) (aCons (fV 11) aNil)))))))
  (fSeq (fAsg 19 (fCall f_law_top (aCons (fV 18) (aCons (fV 16) (aCons (fV 6) (aCons (fBin sDiv (fV 11) (fC (.int 6))) aNil))))))
  (fSeq (fAsg 20 (fCall f_law_planned (aCons (fV 0) (aCons (fV 1) (aCons (fV 2) (aCons (fV 17) (aCons (fV 16) (aCons (fBin sDiv (fV 11) (fC (.int 240))) aNil))))))))
  (fSeq (fMut 10 (aCons (fTup (aCons (fV 16) (aCons (fV 19) (aCons (fV 20) aNil)))) aNil) mAppend)
  (fSeq (fAsg 11 (fBin sDiv (fV 11) (fC (.int 8640))))
  (fSeq (fAsg 13 (fOrV (fV 13) (fUn sIsN (fV 19))))
  (fIf (toB (fUn sNotN (fV 19)))
  (fAsg 12 (fCl (o2 sMax2) (aCons (fV 12) (aCons (fV 19) aNil))))
  fSkip)))))))))))
def g_law_built : Rho → Out := (fSeq (fAsg 5 (fCall f_law_pieces (aCons (fV 0) aNil)))
  (fSeq (fAsg 6 (fC .none))
  (fSeq (fIf (toB (fUn sNotN (fV 3)))
  (fSeq (fAsg 7 (fBin sSub (fBin sAdd (fBin sIx (fCall f_law_costs (aCons (fV 0) aNil)) (fUn sNeg (fC (.int 1)))) (fV 3)) (fC (.int 1))))
  (fAsg 6 (fCl (o1 sMax) (aCons (fBin sAdd (fLst (aCons (fC (.int 0)) aNil)) c_law_built_1) aNil))))
  fSkip)
  (fSeq (fAsgO 10 (fLst (aCons (fTup (aCons (fC (.int 0)) (aCons (fC (.int 0)) (aCons (fCall f_law_planned (aCons (fV 0) (aCons (fV 1) (aCons (fV 2) (aCons (fC (.int 0)) (aCons (fC (.int 0)) (aCons (fV 4) aNil))))))) aNil)))) aNil)))
  (fSeq (fAsg 11 (fBin sDiv (fV 4) (fC (.int 36))))
  (fSeq (fAsg 12 (fC (.int 0)))
  (fSeq (fAsg 13 (fC (.bool false)))
  (fSeq (fFor (iRg1 (aCons (fC (.int 7)) aNil)) (tgN 14)
  b_law_built_1)
  (fFz 10 (fRet (fV 10)))))))))))
def f_law_built : List D → Rs D := runB false 5 21 g_law_built
theorem u_law_built (y0 y1 y2 y3 y4 : D) : f_law_built [y0, y1, y2, y3, y4] = (g_law_built [.va y0, .va y1, .va y2, .va y3, .va y4, .un, .un, .un, .un, .un, .un, .un, .un, .un, .un, .un, .un, .un, .un, .un, .un]).res false := runB_eq rfl
/-- _law_standard(_law_rows, _law_final, _law_ceiling) -/
def g_law_standard : Rho → Out := (fSeq (fIf (toB (fBin sEq (fV 1) (fC (.int 0))))
  (fRet (fLst aNil))
  fSkip)
  (fSeq (fAsg 3 (fV 2))
  (fSeq (fIf (toB (fUn sIsN (fV 2)))
  (fAsg 3 (fBin sAdd (fCall f_law_least (aCons (fV 0) (aCons (fV 1) aNil))) (fC (.int 1))))
  fSkip)
  (fRet (fLst (aCons (fTup (aCons (fV 1) (aCons (fV 3) (aCons (fC (.int 1)) aNil)))) aNil))))))
def f_law_standard : List D → Rs D := runB false 3 4 g_law_standard
theorem u_law_standard (y0 y1 y2 : D) : f_law_standard [y0, y1, y2] = (g_law_standard [.va y0, .va y1, .va y2, .un]).res false := runB_eq rfl
/-- _law_best_for(_law_periods_here, _law_order, _law_final) -/
def g_law_best_for : Rho → Out := (fSeq (fIf (toB (fBin sEq (fV 2) (fC (.int 0))))
  (fRet (fCall f_law_best (aCons (fV 0) (aCons (fV 1) aNil))))
  fSkip)
  (fRet (fCall f_law_best (aCons (fBin sAdd (fV 0) (fLst (aCons (fTup (aCons (fV 2) (aCons (fCall f_law_high (aCons (fV 0) (aCons (fV 2) aNil))) (aCons (fC (.int 1)) aNil)))) aNil))) (aCons (fV 1) aNil)))))
def f_law_best_for : List D → Rs D := runB false 3 3 g_law_best_for
theorem u_law_best_for (y0 y1 y2 : D) : f_law_best_for [y0, y1, y2] = (g_law_best_for [.va y0, .va y1, .va y2]).res false := runB_eq rfl
/-- _law_turns(_law_rows, _law_ceiling) -/
def b_law_turns_1 : Rho → Out := (fIf (fAnd (toB (fUn sNotN (fV 5))) (toB (fBin sNotIn (fBin sAdd (fV 5) (fC (.int 1))) (fB 2))))
  (fMut 2 (aCons (fBin sAdd (fV 5) (fC (.int 1))) aNil) mAppend)
  fSkip)
def c_law_turns_1 : Rho → Rs D := (fComp [6] (iLst (fCl (o1 sSorted) (aCons (fB 2) aNil))) (tgN 6) (toB (fCall f_law_forced (aCons (fV 0) (aCons (fV 6) (aCons (fV 1) aNil))))) (fV 6))
def g_law_turns : Rho → Out := (fSeq (fAsgO 2 (fLst (aCons (fC (.int 1)) aNil)))
  (fSeq (fFor (iLst (fCall f_law_pieces (aCons (fV 0) aNil))) (tgT [(tgN 3), (tgN 4), (tgN 5)])
  b_law_turns_1)
  (fRet c_law_turns_1)))
def f_law_turns : List D → Rs D := runB false 2 7 g_law_turns
theorem u_law_turns (y0 y1 : D) : f_law_turns [y0, y1] = (g_law_turns [.va y0, .va y1, .un, .un, .un, .un, .un]).res false := runB_eq rfl
/-- _law_gap(_law_rows, _law_order, _law_turns_here) -/
def b_law_gap_1 : Rho → Out := (fIf (fNot (toB (fCall f_law_best_for (aCons (fV 0) (aCons (fV 1) (aCons (fV 3) aNil))))))
  (fRet (fV 3))
  fSkip)
def g_law_gap : Rho → Out := (fSeq (fFor (iLst (fV 2)) (tgN 3)
  b_law_gap_1)
  (fRet (fC .none)))
def f_law_gap : List D → Rs D := runB false 3 4 g_law_gap
theorem u_law_gap (y0 y1 y2 : D) : f_law_gap [y0, y1, y2] = (g_law_gap [.va y0, .va y1, .va y2, .un]).res false := runB_eq rfl
/-- _law_cut(_law_rows, _law_ceiling) -/
def c_law_cut_1 : Rho → Rs D := (fComp [2, 3, 4] (iLst (fV 0)) (tgT [(tgN 2), (tgN 3), (tgN 4)]) fYes (fTup (aCons (fV 2) (aCons (fCl (o2 sMin2) (aCons (fV 3) (aCons (fV 1) aNil))) (aCons (fV 4) aNil)))))
def g_law_cut : Rho → Out := (fSeq (fIf (toB (fUn sIsN (fV 1)))
  (fRet (fUn sList (fV 0)))
  fSkip)
  (fRet c_law_cut_1))
def f_law_cut : List D → Rs D := runB false 2 5 g_law_cut
theorem u_law_cut (y0 y1 : D) : f_law_cut [y0, y1] = (g_law_cut [.va y0, .va y1, .un, .un, .un]).res false := runB_eq rfl
/-- _law_net(_law_rows, _law_stock) -/
def b_law_net_1 : Rho → Out := (fSeq (fAsg 7 (fCl (o2 sMax2) (aCons (fC (.int 0)) (aCons (fBin sSub (fV 3) (fV 1)) aNil))))
  (fSeq (fAsg 3 (fBin sAdd (fV 3) (fV 4)))
  (fMut 2 (aCons (fTup (aCons (fBin sSub (fCl (o2 sMax2) (aCons (fC (.int 0)) (aCons (fBin sSub (fV 3) (fV 1)) aNil))) (fV 7)) (aCons (fV 5) (aCons (fV 6) aNil)))) aNil) mAppend)))
def g_law_net : Rho → Out := (fSeq (fAsgO 2 (fLst aNil))
  (fSeq (fAsg 3 (fC (.int 0)))
  (fSeq (fFor (iLst (fV 0)) (tgT [(tgN 4), (tgN 5), (tgN 6)])
  b_law_net_1)
  (fFz 2 (fRet (fV 2))))))
def f_law_net : List D → Rs D := runB false 2 8 g_law_net
theorem u_law_net (y0 y1 : D) : f_law_net [y0, y1] = (g_law_net [.va y0, .va y1, .un, .un, .un, .un, .un, .un]).res false := runB_eq rfl
/-- _law_total(_law_amounts) -/
def g_law_total : Rho → Out := (fSeq (fIf (toB (fBin sIn (fC .none) (fV 0)))
  (fRet (fC .none))
  fSkip)
  (fRet (fCl (o1 sSum) (aCons (fV 0) aNil))))
def f_law_total : List D → Rs D := runB false 1 1 g_law_total
theorem u_law_total (y0 : D) : f_law_total [y0] = (g_law_total [.va y0]).res false := runB_eq rfl
/-- _law_ascends(_law_actual, _law_rows) -/
def c_law_ascends_1 : Rho → Rs D := (fComp [2, 3, 4] (iLst (fV 1)) (tgT [(tgN 2), (tgN 3), (tgN 4)]) fYes (fV 2))
def b_law_ascends_1 : Rho → Out := (fSeq (fIf (fOr (toB (fBin sLt (fBin sIx (fV 0) (fV 6)) (fBin sIx (fBin sIx (fV 1) (fC (.int 0))) (fC (.int 0))))) (toB (fBin sGt (fBin sIx (fV 0) (fV 6)) (fV 5))))
  (fRet (fC (.bool false)))
  fSkip)
  (fIf (fAnd (toB (fBin sGt (fV 6) (fC (.int 0)))) (toB (fBin sLe (fBin sIx (fV 0) (fV 6)) (fBin sIx (fV 0) (fBin sSub (fV 6) (fC (.int 1)))))))
  (fRet (fC (.bool false)))
  fSkip))
def g_law_ascends : Rho → Out := (fSeq (fAsg 5 (fCl (o1 sSum) (aCons c_law_ascends_1 aNil)))
  (fSeq (fIf (fNot (toB (fCall f_law_integers (aCons (fV 0) aNil))))
  (fRet (fC (.bool false)))
  fSkip)
  (fSeq (fFor (iRg1 (aCons (fCl (o1 sLen) (aCons (fV 0) aNil)) aNil)) (tgN 6)
  b_law_ascends_1)
  (fRet (fC (.bool true))))))
def f_law_ascends : List D → Rs D := runB false 2 7 g_law_ascends
theorem u_law_ascends (y0 y1 : D) : f_law_ascends [y0, y1] = (g_law_ascends [.va y0, .va y1, .un, .un, .un, .un, .un]).res false := runB_eq rfl
/-- _law_stays(_law_rows, _law_behind, _law_actual) -/
def b_law_stays_1 : Rho → Out := (fIf (toB (fBin sNe (fCall f_law_prefix (aCons (fV 3) (aCons (fLst (aCons (fV 5) aNil)) aNil))) (fV 4)))
  (fRet (fC (.bool false)))
  fSkip)
def g_law_stays : Rho → Out := (fSeq (fAsg 3 (fBin sAdd (fV 0) (fV 1)))
  (fSeq (fAsg 4 (fBin sIx (fCall f_law_costs (aCons (fV 3) aNil)) (fUn sNeg (fC (.int 1)))))
  (fSeq (fFor (iLst (fBin sAdd (fSlice (fV 2) (fPart none) (fPart (some (fC (.int 2))))) (fSlice (fSlice (fV 2) (fPart (some (fC (.int 2)))) (fPart none)) (fPart (some (fUn sNeg (fC (.int 2))))) (fPart none)))) (tgN 5)
  b_law_stays_1)
  (fRet (fC (.bool true))))))
def f_law_stays : List D → Rs D := runB false 3 6 g_law_stays
theorem u_law_stays (y0 y1 y2 : D) : f_law_stays [y0, y1, y2] = (g_law_stays [.va y0, .va y1, .va y2, .un, .un, .un]).res false := runB_eq rfl
/-- _law_meeting(_law_rows, _law_number_here) -/
def g_law_meeting_k37 : Rho → Out := (fSeq (fAsg 2 (fCall f_law_lines (aCons (fV 0) aNil)))
  (fSeq (fIf (toB (fBin sLt (fCl (o1 sLen) (aCons (fV 2) aNil)) (fC (.int 2))))
  (fRet (fBin sAdd (fC (.int 1)) (fBin sMod (fCl (o1 sInt) (aCons (fV 1) aNil)) (fC (.int 9)))))
  fSkip)
  (fSeq (fAsg 3 (fBin sMod (fCl (o1 sInt) (aCons (fV 1) aNil)) (fBin sSub (fCl (o1 sLen) (aCons (fV 2) aNil)) (fC (.int 1)))))
  (fSeq (fAsg 4 (fBin sDiv (fV 1) (fC (.int 60))))
  (fSeq (fAsg 5 (fBin sAdd (fBin sAdd (fV 3) (fC (.int 1))) (fBin sMod (fCl (o1 sInt) (aCons (fV 4) aNil)) (fBin sSub (fBin sSub (fCl (o1 sLen) (aCons (fV 2) aNil)) (fC (.int 1))) (fV 3)))))
  (fSeq (fAsgT (tgT [(tgN 6), (tgN 7)]) (fBin sIx (fV 2) (fV 3)))
  (fSeq (fAsgT (tgT [(tgN 8), (tgN 9)]) (fBin sIx (fV 2) (fV 5)))
  (fRet (fCl (o2 sMax2) (aCons (fC (.int 1)) (aCons (fBin sSub (fBin sSub (fBin sMod (fCl (o1 sInt) (aCons (fBin sDiv (fV 4) (fC (.int 60))) aNil)) (fC (.int 3))) (fC (.int 1))) (fBin sDiv (fBin sSub (fV 6) (fV 8)) (fBin sSub (fV 7) (fV 9)))) aNil)))))))))))
def f_law_meeting_k37 : List D → Rs D := runB false 2 10 g_law_meeting_k37
theorem u_law_meeting_k37 (y0 y1 : D) : f_law_meeting_k37 [y0, y1] = (g_law_meeting_k37 [.va y0, .va y1, .un, .un, .un, .un, .un, .un, .un, .un]).res false := runB_eq rfl
/-- _law_safe(_law_rows, _law_ceiling) -/
def c_law_safe_1 : Rho → Rs D := (fComp [3] (iLst (fCall f_law_firsts (aCons (fV 0) aNil))) (tgN 3) (toB (fUn sIsN (fCall f_law_gap (aCons (fV 0) (aCons (fV 3) (aCons (fV 2) aNil)))))) (fV 3))
def g_law_safe : Rho → Out := (fSeq (fAsg 2 (fCall f_law_turns (aCons (fV 0) (aCons (fV 1) aNil))))
  (fRet c_law_safe_1))
def f_law_safe : List D → Rs D := runB false 2 4 g_law_safe
theorem u_law_safe (y0 y1 : D) : f_law_safe [y0, y1] = (g_law_safe [.va y0, .va y1, .un, .un]).res false := runB_eq rfl
/-- _law_wanted(_law_rows, _law_number_here) -/
def c_law_wanted_1 : Rho → Rs D := (fComp [4, 5, 6] (iLst (fSlice (fV 0) (fPart none) (fPart (some (fBin sAdd (fC (.int 1)) (fBin sMod (fCl (o1 sInt) (aCons (fV 3) aNil)) (fCl (o1 sLen) (aCons (fV 0) aNil)))))))) (tgT [(tgN 4), (tgN 5), (tgN 6)]) fYes (fV 4))
def c_law_wanted_2 : Rho → Rs D := (fComp [4, 5, 6] (iLst (fV 0)) (tgT [(tgN 4), (tgN 5), (tgN 6)]) fYes (fV 4))
def g_law_wanted : Rho → Out := (fSeq (fAsg 2 (fBin sMod (fCl (o1 sInt) (aCons (fV 1) aNil)) (fC (.int 8))))
  (fSeq (fAsg 3 (fBin sDiv (fV 1) (fC (.int 8))))
  (fSeq (fAsg 7 (fCl (o1 sSum) (aCons c_law_wanted_1 aNil)))
  (fSeq (fIf (toB (fBin sLt (fV 2) (fC (.int 3))))
  (fSeq (fAsg 8 (fCall f_law_firsts (aCons (fV 0) aNil)))
  (fAsg 7 (fBin sIx (fV 8) (fBin sMod (fCl (o1 sInt) (aCons (fV 3) aNil)) (fCl (o1 sLen) (aCons (fV 8) aNil))))))
  fSkip)
  (fSeq (fIf (toB (fBin sEq (fV 2) (fC (.int 4))))
  (fAsg 7 (fBin sAdd (fV 7) (fC (.int 1))))
  fSkip)
  (fSeq (fIf (toB (fBin sEq (fV 2) (fC (.int 5))))
  (fAsg 7 (fBin sSub (fV 7) (fC (.int 1))))
  fSkip)
  (fSeq (fIf (toB (fBin sEq (fV 2) (fC (.int 6))))
  (fAsg 7 (fBin sSub (fUn sNeg (fC (.int 1))) (fBin sMod (fCl (o1 sInt) (aCons (fV 3) aNil)) (fC (.int 5)))))
  fSkip)
  (fSeq (fIf (toB (fBin sEq (fV 2) (fC (.int 7))))
  (fAsg 7 (fBin sAdd (fBin sAdd (fC (.int 1)) (fBin sMod (fCl (o1 sInt) (aCons (fV 3) aNil)) (fC (.int 9)))) (fCl (o1 sSum) (aCons c_law_wanted_2 aNil))))
  fSkip)
  (fRet (fV 7))))))))))
def f_law_wanted : List D → Rs D := runB false 2 9 g_law_wanted
theorem u_law_wanted (y0 y1 : D) : f_law_wanted [y0, y1] = (g_law_wanted [.va y0, .va y1, .un, .un, .un, .un, .un, .un, .un]).res false := runB_eq rfl
/-- _law_tight(_law_rows, _law_order, _law_number_here) -/
def g_law_tight_k39 : Rho → Out := (fSeq (fAsg 3 (fCall f_law_gap (aCons (fV 0) (aCons (fV 1) (aCons (fCall f_law_turns (aCons (fV 0) (aCons (fC .none) aNil))) aNil)))))
  (fSeq (fIf (toB (fUn sIsN (fV 3)))
  (fRet (fC .none))
  fSkip)
  (fRet (fBin sAdd (fBin sSub (fCall f_law_least (aCons (fV 0) (aCons (fV 3) aNil))) (fBin sIx (fCall f_law_costs (aCons (fV 0) aNil)) (fUn sNeg (fC (.int 1))))) (fBin sMod (fCl (o1 sInt) (aCons (fV 2) aNil)) (fC (.int 2)))))))
def f_law_tight_k39 : List D → Rs D := runB false 3 4 g_law_tight_k39
theorem u_law_tight_k39 (y0 y1 y2 : D) : f_law_tight_k39 [y0, y1, y2] = (g_law_tight_k39 [.va y0, .va y1, .va y2, .un]).res false := runB_eq rfl
/-- _law_due(_law_rows, _law_order, _law_ceiling) -/
def g_law_due_k39 : Rho → Out := (fSeq (fIf (fNot (toB (fCall f_law_best (aCons (fV 0) (aCons (fV 1) aNil)))))
  (fRet (fLst aNil))
  fSkip)
  (fSeq (fAsg 3 (fCall f_law_gap (aCons (fV 0) (aCons (fV 1) (aCons (fCall f_law_turns (aCons (fV 0) (aCons (fV 2) aNil))) aNil)))))
  (fSeq (fIf (toB (fUn sIsN (fV 3)))
  (fRet (fC .none))
  fSkip)
  (fRet (fCall f_law_standard (aCons (fV 0) (aCons (fV 3) (aCons (fV 2) aNil))))))))
def f_law_due_k39 : List D → Rs D := runB false 3 4 g_law_due_k39
theorem u_law_due_k39 (y0 y1 y2 : D) : f_law_due_k39 [y0, y1, y2] = (g_law_due_k39 [.va y0, .va y1, .va y2, .un]).res false := runB_eq rfl
/-- _law_net(_law_rows, _law_orders_here) -/
def c_law_net_k47_1 : Rho → Rs D := (fComp [2, 3, 4] (iLst (fSlice (fV 0) (fPart none) (fPart (some (fCl (o1 sLen) (aCons (fV 1) aNil)))))) (tgT [(tgN 2), (tgN 3), (tgN 4)]) fYes (fV 2))
def b_law_net_k47_1 : Rho → Out := (fSeq (fAsg 8 (fCl (o2 sMax2) (aCons (fC (.int 0)) (aCons (fBin sSub (fV 6) (fV 5)) aNil))))
  (fSeq (fAsg 6 (fBin sAdd (fV 6) (fV 2)))
  (fMut 7 (aCons (fTup (aCons (fBin sSub (fCl (o2 sMax2) (aCons (fC (.int 0)) (aCons (fBin sSub (fV 6) (fV 5)) aNil))) (fV 8)) (aCons (fV 3) (aCons (fV 4) aNil)))) aNil) mAppend)))
def g_law_net_k47 : Rho → Out := (fSeq (fAsg 5 (fBin sSub (fCl (o1 sSum) (aCons (fV 1) aNil)) (fCl (o1 sSum) (aCons c_law_net_k47_1 aNil))))
  (fSeq (fAsg 6 (fC (.int 0)))
  (fSeq (fAsgO 7 (fLst aNil))
  (fSeq (fFor (iLst (fSlice (fV 0) (fPart (some (fCl (o1 sLen) (aCons (fV 1) aNil)))) (fPart none))) (tgT [(tgN 2), (tgN 3), (tgN 4)])
  b_law_net_k47_1)
  (fFz 7 (fRet (fV 7)))))))
def f_law_net_k47 : List D → Rs D := runB false 2 9 g_law_net_k47
theorem u_law_net_k47 (y0 y1 : D) : f_law_net_k47 [y0, y1] = (g_law_net_k47 [.va y0, .va y1, .un, .un, .un, .un, .un, .un, .un]).res false := runB_eq rfl
/-- _law_near(_law_rows, _law_number_here) -/
def g_law_near : Rho → Out := (fSeq (fAsg 2 (fBin sMod (fCl (o1 sInt) (aCons (fBin sDiv (fV 1) (fC (.int 4))) aNil)) (fC (.int 12))))
  (fSeq (fIf (toB (fBin sEq (fBin sMod (fCl (o1 sInt) (aCons (fBin sDiv (fV 1) (fC (.int 2))) aNil)) (fC (.int 2))) (fC (.int 1))))
  (fAsg 2 (fBin sMod (fCl (o1 sInt) (aCons (fBin sDiv (fV 1) (fC (.int 4))) aNil)) (fC (.int (10 ^ 40)))))
  fSkip)
  (fRet (fBin sAdd (fBin sSub (fCall f_law_least (aCons (fV 0) (aCons (fV 2) aNil))) (fBin sIx (fCall f_law_costs (aCons (fV 0) aNil)) (fUn sNeg (fC (.int 1))))) (fBin sMod (fCl (o1 sInt) (aCons (fV 1) aNil)) (fC (.int 2)))))))
def f_law_near : List D → Rs D := runB false 2 3 g_law_near
theorem u_law_near (y0 y1 : D) : f_law_near [y0, y1] = (g_law_near [.va y0, .va y1, .un]).res false := runB_eq rfl
/-- _law_sums(_law_rows) -/
def b_law_sums_1 : Rho → Out := (fSeq (fAsg 1 (fBin sAdd (fV 1) (fV 3)))
  (fIf (toB (fBin sNotIn (fV 1) (fB 2)))
  (fMut 2 (aCons (fV 1) aNil) mAppend)
  fSkip))
def g_law_sums : Rho → Out := (fSeq (fAsg 1 (fC (.int 0)))
  (fSeq (fAsgO 2 (fLst aNil))
  (fSeq (fFor (iLst (fV 0)) (tgT [(tgN 3), (tgN 4), (tgN 5)])
  b_law_sums_1)
  (fFz 2 (fRet (fV 2))))))
def f_law_sums : List D → Rs D := runB false 1 6 g_law_sums
theorem u_law_sums (y0 : D) : f_law_sums [y0] = (g_law_sums [.va y0, .un, .un, .un, .un, .un]).res false := runB_eq rfl
/-- _law_turns(_law_rows) -/
def b_law_turns_k51_1 : Rho → Out := (fIf (fAnd (toB (fUn sNotN (fV 4))) (toB (fBin sNotIn (fBin sAdd (fV 4) (fC (.int 1))) (fB 1))))
  (fMut 1 (aCons (fBin sAdd (fV 4) (fC (.int 1))) aNil) mAppend)
  fSkip)
def g_law_turns_k51 : Rho → Out := (fSeq (fAsgO 1 (fLst (aCons (fC (.int 1)) aNil)))
  (fSeq (fFor (iLst (fCall f_law_pieces (aCons (fV 0) aNil))) (tgT [(tgN 2), (tgN 3), (tgN 4)])
  b_law_turns_k51_1)
  (fRet (fCl (o1 sSorted) (aCons (fB 1) aNil)))))
def f_law_turns_k51 : List D → Rs D := runB false 1 5 g_law_turns_k51
theorem u_law_turns_k51 (y0 : D) : f_law_turns_k51 [y0] = (g_law_turns_k51 [.va y0, .un, .un, .un, .un]).res false := runB_eq rfl
/-- _law_tight(_law_rows, _law_order, _law_number_here) -/
def b_law_tight_1 : Rho → Out := (fIf (fNot (toB (fCall f_law_best_for (aCons (fV 0) (aCons (fV 1) (aCons (fV 3) aNil))))))
  (fRet (fBin sAdd (fBin sSub (fCall f_law_least (aCons (fV 0) (aCons (fV 3) aNil))) (fBin sIx (fCall f_law_costs (aCons (fV 0) aNil)) (fUn sNeg (fC (.int 1))))) (fBin sMod (fCl (o1 sInt) (aCons (fV 2) aNil)) (fC (.int 2)))))
  fSkip)
def g_law_tight : Rho → Out := (fSeq (fFor (iLst (fCall f_law_turns_k51 (aCons (fV 0) aNil))) (tgN 3)
  b_law_tight_1)
  (fRet (fC .none)))
def f_law_tight : List D → Rs D := runB false 3 4 g_law_tight
theorem u_law_tight (y0 y1 y2 : D) : f_law_tight [y0, y1, y2] = (g_law_tight [.va y0, .va y1, .va y2, .un]).res false := runB_eq rfl
/-- _law_common(_law_rows, _law_continuations, _law_order) -/
def b_law_common_1 : Rho → Out := (fIf (fNot (toB (fCall f_law_best (aCons (fBin sAdd (fV 0) (fV 3)) (aCons (fV 2) aNil)))))
  (fRet (fC (.bool false)))
  fSkip)
def g_law_common : Rho → Out := (fSeq (fFor (iLst (fV 1)) (tgN 3)
  b_law_common_1)
  (fRet (fC (.bool true))))
def f_law_common : List D → Rs D := runB false 3 4 g_law_common
theorem u_law_common (y0 y1 y2 : D) : f_law_common [y0, y1, y2] = (g_law_common [.va y0, .va y1, .va y2, .un]).res false := runB_eq rfl
/-- _law_ends(_law_rows, _law_number_here) -/
def g_law_ends : Rho → Out := (fSeq (fAsg 2 (fCall f_law_pieces (aCons (fV 0) aNil)))
  (fSeq (fAsgT (tgT [(tgN 3), (tgN 4), (tgN 5)]) (fBin sIx (fV 2) (fBin sMod (fCl (o1 sInt) (aCons (fV 1) aNil)) (fCl (o1 sLen) (aCons (fV 2) aNil)))))
  (fSeq (fIf (toB (fUn sIsN (fV 5)))
  (fRet (fLst (aCons (fV 4) (aCons (fBin sAdd (fV 4) (fC (.int 1))) aNil))))
  fSkip)
  (fRet (fLst (aCons (fV 4) (aCons (fBin sAdd (fV 4) (fC (.int 1))) (aCons (fV 5) aNil))))))))
def f_law_ends : List D → Rs D := runB false 2 6 g_law_ends
theorem u_law_ends (y0 y1 : D) : f_law_ends [y0, y1] = (g_law_ends [.va y0, .va y1, .un, .un, .un, .un]).res false := runB_eq rfl
/-- _law_changed(_law_rows, _law_number_here) -/
def g_law_changed : Rho → Out := (fSeq (fAsg 2 (fBin sSub (fCl (o1 sLen) (aCons (fV 0) aNil)) (fC (.int 1))))
  (fSeq (fIf (toB (fBin sEq (fBin sMod (fCl (o1 sInt) (aCons (fV 1) aNil)) (fC (.int 2))) (fC (.int 0))))
  (fAsg 2 (fBin sMod (fCl (o1 sInt) (aCons (fBin sDiv (fV 1) (fC (.int 2))) aNil)) (fCl (o1 sLen) (aCons (fV 0) aNil))))
  fSkip)
  (fSeq (fAsgT (tgT [(tgN 3), (tgN 4), (tgN 5)]) (fBin sIx (fV 0) (fV 2)))
  (fSeq (fAsg 6 (fBin sMod (fCl (o1 sInt) (aCons (fBin sDiv (fV 1) (fC (.int 24))) aNil)) (fC (.int 4))))
  (fSeq (fIf (toB (fBin sEq (fV 6) (fC (.int 1))))
  (fAsg 3 (fBin sAdd (fV 3) (fC (.int 1))))
  fSkip)
  (fSeq (fIf (toB (fBin sEq (fV 6) (fC (.int 2))))
  (fAsg 4 (fBin sAdd (fV 4) (fC (.int 1))))
  fSkip)
  (fSeq (fIf (toB (fBin sEq (fV 6) (fC (.int 3))))
  (fAsg 5 (fBin sAdd (fV 5) (fC (.int 1))))
  fSkip)
  (fRet (fBin sAdd (fBin sAdd (fSlice (fV 0) (fPart none) (fPart (some (fV 2)))) (fLst (aCons (fTup (aCons (fV 3) (aCons (fV 4) (aCons (fV 5) aNil)))) aNil))) (fSlice (fV 0) (fPart (some (fBin sAdd (fV 2) (fC (.int 1))))) (fPart none)))))))))))
def f_law_changed : List D → Rs D := runB false 2 7 g_law_changed
theorem u_law_changed (y0 y1 : D) : f_law_changed [y0, y1] = (g_law_changed [.va y0, .va y1, .un, .un, .un, .un, .un]).res false := runB_eq rfl
/-- _law_single(_law_rows, _law_number_here) -/
def c_law_single_1 : Rho → Rs D := (fComp [2] (iLst (fV 0)) (tgN 2) fYes (fBin sIx (fV 2) (fC (.int 2))))
def g_law_single : Rho → Out := (fSeq (fAsg 3 (fCl (o1 sSum) (aCons c_law_single_1 aNil)))
  (fSeq (fIf (fAnd (toB (fBin sEq (fCl (o1 sLen) (aCons (fV 0) aNil)) (fC (.int 1)))) (toB (fBin sEq (fBin sIx (fBin sIx (fV 0) (fC (.int 0))) (fC (.int 0))) (fC (.int 0)))))
  (fAsg 3 (fBin sAdd (fV 3) (fBin sIx (fBin sIx (fV 0) (fC (.int 0))) (fC (.int 1)))))
  fSkip)
  (fRet (fLst (aCons (fTup (aCons (fBin sAdd (fC (.int 1)) (fBin sMod (fCl (o1 sInt) (aCons (fV 1) aNil)) (fC (.int 3)))) (aCons (fBin sMod (fCl (o1 sInt) (aCons (fBin sDiv (fV 1) (fC (.int 3))) aNil)) (fC (.int 50))) (aCons (fV 3) aNil)))) aNil)))))
def f_law_single : List D → Rs D := runB false 2 4 g_law_single
theorem u_law_single (y0 y1 : D) : f_law_single [y0, y1] = (g_law_single [.va y0, .va y1, .un, .un]).res false := runB_eq rfl
/-- _law_worth(_law_lines_here, _law_final) -/
def c_law_worth_1 : Rho → Rs D := (fComp [2, 3] (iLst (fV 0)) (tgT [(tgN 2), (tgN 3)]) fYes (fBin sAdd (fV 2) (fBin sMul (fV 3) (fV 1))))
def g_law_worth : Rho → Out := (fRet (fCl (o1 sMin) (aCons c_law_worth_1 aNil)))
def f_law_worth : List D → Rs D := runB false 2 4 g_law_worth
theorem u_law_worth (y0 y1 : D) : f_law_worth [y0, y1] = (g_law_worth [.va y0, .va y1, .un, .un]).res false := runB_eq rfl
/-- _law_lists(_law_script, _law_scale, _law_number_here, _law_most) -/
def g_law_lists : Rho → Out := (fSeq (fAsg 4 (fBin sMod (fCl (o1 sInt) (aCons (fV 2) aNil)) (fC (.int 4))))
  (fSeq (fAsg 5 (fBin sDiv (fV 2) (fC (.int 4))))
  (fSeq (fIf (toB (fBin sEq (fV 4) (fC (.int 0))))
  (fSeq (fAsgO 6 (fCall f_law_periods (aCons (fV 0) (aCons (fC (.int 4)) (aCons (fBin sAdd (fC (.int 1)) (fBin sMod (fCl (o1 sInt) (aCons (fV 5) aNil)) (fC (.int 5)))) (aCons (fV 1) aNil))))))
  (fSeq (fAsg 7 (fCall f_law_periods (aCons (fV 0) (aCons (fBin sAdd (fC (.int 4)) (fCl (o1 sLen) (aCons (fB 6) aNil))) (aCons (fBin sMod (fCl (o1 sInt) (aCons (fBin sDiv (fV 5) (fC (.int 5))) aNil)) (fC (.int 6))) (aCons (fV 1) aNil))))))
  (fSeq (fAsg 8 (fCall f_law_periods (aCons (fV 0) (aCons (fBin sAdd (fC (.int 4)) (fCl (o1 sLen) (aCons (fBin sCat (fB 6) (fV 7)) aNil))) (aCons (fBin sMod (fCl (o1 sInt) (aCons (fBin sDiv (fV 5) (fC (.int 30))) aNil)) (fC (.int 6))) (aCons (fV 1) aNil))))))
  (fSeq (fSet 6 (fTup (aCons (fBin sIx (fBin sIx (fB 6) (fC (.int 0))) (fC (.int 0))) (aCons (fC (.int 0)) (aCons (fBin sIx (fBin sIx (fB 6) (fC (.int 0))) (fC (.int 2))) aNil)))) (fC (.int 0)))
  (fRet (fTup (aCons (fBin sCat (fV 7) (fB 6)) (aCons (fBin sCat (fV 8) (fB 6)) aNil))))))))
  fSkip)
  (fSeq (fAsg 7 (fCall f_law_periods (aCons (fV 0) (aCons (fC (.int 4)) (aCons (fBin sAdd (fC (.int 1)) (fBin sMod (fCl (o1 sInt) (aCons (fV 5) aNil)) (fV 3))) (aCons (fV 1) aNil))))))
  (fSeq (fIf (toB (fBin sEq (fV 4) (fC (.int 1))))
  (fRet (fTup (aCons (fV 7) (aCons (fCall f_law_periods (aCons (fV 0) (aCons (fBin sAdd (fC (.int 4)) (fCl (o1 sLen) (aCons (fV 7) aNil))) (aCons (fBin sAdd (fC (.int 1)) (fBin sMod (fCl (o1 sInt) (aCons (fBin sDiv (fV 5) (fC (.int 12))) aNil)) (fV 3))) (aCons (fV 1) aNil))))) aNil))))
  fSkip)
  (fSeq (fIf (toB (fBin sEq (fV 4) (fC (.int 2))))
  (fRet (fTup (aCons (fV 7) (aCons (fCall f_law_changed (aCons (fV 7) (aCons (fBin sDiv (fV 5) (fC (.int 12))) aNil))) aNil))))
  fSkip)
  (fSeq (fAsg 7 (fSlice (fV 7) (fPart none) (fPart (some (fBin sAdd (fC (.int 1)) (fBin sMod (fCl (o1 sInt) (aCons (fBin sDiv (fV 5) (fC (.int 12))) aNil)) (fC (.int 3))))))))
  (fRet (fTup (aCons (fV 7) (aCons (fCall f_law_single (aCons (fV 7) (aCons (fBin sDiv (fV 5) (fC (.int 36))) aNil))) aNil)))))))))))
def f_law_lists : List D → Rs D := runB false 4 9 g_law_lists
theorem u_law_lists (y0 y1 y2 y3 : D) : f_law_lists [y0, y1, y2, y3] = (g_law_lists [.va y0, .va y1, .va y2, .va y3, .un, .un, .un, .un, .un]).res false := runB_eq rfl
/-- _law_ends(_law_rows) -/
def b_law_ends_k57_1 : Rho → Out := (fSeq (fAsgO 1 (fBin sCat (fB 1) (fLst (aCons (fV 3) (aCons (fBin sAdd (fV 3) (fC (.int 1))) aNil)))))
  (fIf (toB (fUn sNotN (fV 4)))
  (fMut 1 (aCons (fV 4) aNil) mAppend)
  fSkip))
def g_law_ends_k57 : Rho → Out := (fSeq (fAsgO 1 (fLst aNil))
  (fSeq (fFor (iLst (fCall f_law_pieces (aCons (fV 0) aNil))) (tgT [(tgN 2), (tgN 3), (tgN 4)])
  b_law_ends_k57_1)
  (fFz 1 (fRet (fV 1)))))
def f_law_ends_k57 : List D → Rs D := runB false 1 5 g_law_ends_k57
theorem u_law_ends_k57 (y0 : D) : f_law_ends_k57 [y0] = (g_law_ends_k57 [.va y0, .un, .un, .un, .un]).res false := runB_eq rfl
/-- _law_agree(_law_first, _law_second, _law_below) -/
def b_law_agree_1 : Rho → Out := (fIf (fOr (toB (fUn sIsN (fV 2))) (toB (fBin sLt (fV 6) (fV 2))))
  (fIf (toB (fBin sNe (fBin sSub (fCall f_law_worth (aCons (fV 3) (aCons (fV 6) aNil))) (fCall f_law_worth (aCons (fV 4) (aCons (fV 6) aNil)))) (fV 5)))
  (fRet (fC (.bool false)))
  fSkip)
  fSkip)
def g_law_agree : Rho → Out := (fSeq (fAsg 3 (fCall f_law_lines (aCons (fV 0) aNil)))
  (fSeq (fAsg 4 (fCall f_law_lines (aCons (fV 1) aNil)))
  (fSeq (fAsg 5 (fBin sSub (fBin sIx (fCall f_law_costs (aCons (fV 0) aNil)) (fUn sNeg (fC (.int 1)))) (fBin sIx (fCall f_law_costs (aCons (fV 1) aNil)) (fUn sNeg (fC (.int 1))))))
  (fSeq (fFor (iLst (fBin sAdd (fCall f_law_ends_k57 (aCons (fV 0) aNil)) (fCall f_law_ends_k57 (aCons (fV 1) aNil)))) (tgN 6)
  b_law_agree_1)
  (fRet (fC (.bool true)))))))
def f_law_agree : List D → Rs D := runB false 3 7 g_law_agree
theorem u_law_agree (y0 y1 y2 : D) : f_law_agree [y0, y1, y2] = (g_law_agree [.va y0, .va y1, .va y2, .un, .un, .un, .un]).res false := runB_eq rfl
end Lw

namespace Lw
open PySem PySem.Spec PyProof.Rows L2 Ct
def SB : Nat → Nat → Option Bool
  | 0, 2 => some false
  | 0, 7 => some false
  | 0, 8 => some false
  | 1, 2 => some false
  | 1, 7 => some false
  | 1, 8 => some false
  | 2, 2 => some true
  | 2, 7 => some false
  | 2, 8 => some false
  | 3, 2 => some false
  | 3, 7 => some false
  | 3, 8 => some false
  | 4, 2 => some false
  | 4, 7 => some false
  | 4, 8 => some false
  | 5, 2 => some false
  | 5, 7 => some false
  | 5, 8 => some false
  | 6, 2 => some false
  | 6, 7 => some false
  | 6, 8 => some false
  | 7, 2 => some false
  | 7, 7 => some true
  | 7, 8 => some false
  | 8, 2 => some false
  | 8, 7 => some false
  | 8, 8 => some true
  | 9, 2 => some false
  | 9, 7 => some false
  | 9, 8 => some false
  | 10, 2 => some false
  | 10, 7 => some false
  | 10, 8 => some false
  | _, _ => none
/-- _law_final(_law_rows, _law_ceiling, _law_number_here) -/
def g_law_final_k12 : Rho → Out := (fSeq (fAsg 3 (fBin sMod (fCl (o1 sInt) (aCons (fV 2) aNil)) (fC (.int 8))))
  (fSeq (fAsg 4 (fBin sDiv (fV 2) (fC (.int 8))))
  (fSeq (fIf (fAnd (toB (fBin sLt (fV 3) (fC (.int 4)))) (toB (fUn sNotN (fV 1))))
  (fRet (fCl (o2 sMax2) (aCons (fC (.int 0)) (aCons (fBin sAdd (fBin sSub (fCall f_law_edge (aCons (fV 0) (aCons (fV 1) aNil))) (fC (.int 1))) (fV 3)) aNil))))
  fSkip)
  (fSeq (fIf (toB (fBin sEq (fV 3) (fC (.int 4))))
  (fRet (fC (.int 0)))
  fSkip)
  (fSeq (fIf (toB (fBin sEq (fV 3) (fC (.int 5))))
  (fRet (fBin sMod (fCl (o1 sInt) (aCons (fV 4) aNil)) (fC (.int 6))))
  fSkip)
  (fSeq (fIf (toB (fBin sEq (fV 3) (fC (.int 6))))
  (fRet (fBin sMod (fCl (o1 sInt) (aCons (fV 4) aNil)) (fC (.int 500))))
  fSkip)
  (fRet (fBin sMod (fCl (o1 sInt) (aCons (fV 4) aNil)) (fC (.int (10 ^ 60)))))))))))
def f_law_final_k12 : List D → Rs D := runB false 3 5 g_law_final_k12
theorem u_law_final_k12 (y0 y1 y2 : D) : f_law_final_k12 [y0, y1, y2] = (g_law_final_k12 [.va y0, .va y1, .va y2, .un, .un]).res false := runB_eq rfl
/-- _law_due(_law_rows, _law_final_here, _law_ceiling) -/
def g_law_due_k12 : Rho → Out := (fSeq (fIf (toB (fBin sEq (fCl (o1 sLen) (aCons (fV 0) aNil)) (fC (.int 0))))
  (fRet (fTup (aCons (fC (.int 3)) (aCons (fC (.bool true)) aNil))))
  fSkip)
  (fSeq (fIf (toB (fBin sLt (fV 1) (fC (.int 0))))
  (fRet (fTup (aCons (fC (.int 1)) (aCons (fC (.bool true)) aNil))))
  fSkip)
  (fSeq (fIf (toB (fBin sEq (fV 1) (fC (.int 0))))
  (fRet (fTup (aCons (fC (.int 0)) (aCons (fLst aNil) aNil))))
  fSkip)
  (fSeq (fIf (fNot (toB (fCall f_law_forced (aCons (fV 0) (aCons (fV 1) (aCons (fV 2) aNil))))))
  (fRet (fTup (aCons (fC (.int 2)) (aCons (fC (.bool true)) aNil))))
  fSkip)
  (fSeq (fIf (toB (fUn sIsN (fV 2)))
  (fRet (fTup (aCons (fC (.int 0)) (aCons (fLst (aCons (fTup (aCons (fV 1) (aCons (fBin sAdd (fCall f_law_least (aCons (fV 0) (aCons (fV 1) aNil))) (fC (.int 1))) (aCons (fC (.int 1)) aNil)))) aNil)) aNil))))
  fSkip)
  (fRet (fTup (aCons (fC (.int 0)) (aCons (fLst (aCons (fTup (aCons (fV 1) (aCons (fV 2) (aCons (fC (.int 1)) aNil)))) aNil)) aNil)))))))))
def f_law_due_k12 : List D → Rs D := runB false 3 3 g_law_due_k12
theorem u_law_due_k12 (y0 y1 y2 : D) : f_law_due_k12 [y0, y1, y2] = (g_law_due_k12 [.va y0, .va y1, .va y2]).res false := runB_eq rfl
/-- _law_told(_law_rows, _law_final_here, _law_ceiling, _law_named) -/
def g_law_told_k12 : Rho → Out := (fTry SB
  (fSeq (fIf (toT (fV 3))
  (fRet (fTup (aCons (fC (.int 0)) (aCons (fCallK f_standard_continuation (aCons (fV 0) (aCons (fV 1) aNil)) (fV 2)) aNil))))
  fSkip)
  (fRet (fTup (aCons (fC (.int 0)) (aCons (fCallD f_standard_continuation .none (aCons (fV 0) (aCons (fV 1) aNil))) aNil)))))
  [(7, some 4, (fSeq (fAsg 5 (fAndV (fIsE 4 7 true) (fIsE 4 7 true)))
  (fRet (fTup (aCons (fC (.int 1)) (aCons (fSc (fAndV (fV 5) (fAndV (fNotV (fIsE 4 7 false)) (fNotV (fIsE 4 7 false))))) aNil)))))),
   (8, some 6, (fSeq (fAsg 5 (fAndV (fIsE 6 8 true) (fIsE 6 8 true)))
  (fSeq (fAsg 7 (fLst (aCons (fIsE 6 8 false) (aCons (fIsE 6 8 false) aNil))))
  (fSeq (fAsg 7 (fBin sAdd (fV 7) (fLst (aCons (fIsE 6 8 false) (aCons (fIsE 6 8 false) aNil)))))
  (fSeq (fAsg 7 (fBin sAdd (fV 7) (fLst (aCons (fIsE 6 8 false) (aCons (fIsE 6 8 false) aNil)))))
  (fSeq (fAsg 7 (fBin sAdd (fV 7) (fLst (aCons (fIsE 6 8 false) (aCons (fIsE 6 8 false) aNil)))))
  (fSeq (fAsg 7 (fBin sAdd (fV 7) (fLst (aCons (fIsE 6 8 false) (aCons (fIsE 6 8 false) aNil)))))
  (fRet (fTup (aCons (fC (.int 2)) (aCons (fSc (fAndV (fV 5) (fBin sNotIn (fC (.bool true)) (fV 7)))) aNil))))))))))),
   (2, some 8, (fRet (fTup (aCons (fC (.int 3)) (aCons (fSc (fAndV (fIsE 8 2 true) (fIsE 8 2 true))) aNil)))))])
def f_law_told_k12 : List D → Rs D := runB true 4 9 g_law_told_k12
theorem u_law_told_k12 (y0 y1 y2 y3 : D) : f_law_told_k12 [y0, y1, y2, y3] = (g_law_told_k12 [.va y0, .va y1, .va y2, .va y3, .un, .un, .un, .un, .un]).res true := runB_eq rfl
/-- _law_right(_law_rows, _law_final_here, _law_ceiling) -/
def b_law_right_k12_1 : Rho → Out := (fSeq (fAsgW 6 (.c .g (.r (.r .g))) (fCall f_law_told_k12 (aCons (fV 4) (aCons (fV 1) (aCons (fV 2) (aCons (fC (.bool true)) aNil))))))
  (fSeq (fIf (fOr (fNot (toB (fCallB f_law_same (aCons (fT 6) (aCons (fV 3) aNil))))) (fNot (toB (fCall f_law_same (aCons (fV 4) (aCons (fV 0) aNil))))))
  (fRet (fC (.bool false)))
  fSkip)
  (fIf (toB (fBin sEq (fBin sIx (fV 3) (fC (.int 0))) (fC (.int 0))))
  (fSeq (fTake 7 6 (fC (.int 1)))
  (fMut 7 (aCons (fTup (aCons (fC (.int 1)) (aCons (fC (.int 1)) (aCons (fC (.int 1)) aNil)))) aNil) mAppend))
  fSkip)))
def g_law_right_k12 : Rho → Out := (fSeq (fAsg 3 (fCall f_law_due_k12 (aCons (fV 0) (aCons (fV 1) (aCons (fV 2) aNil)))))
  (fSeq (fAsg 4 (fUn sList (fV 0)))
  (fSeq (fFor (iRg1 (aCons (fC (.int 2)) aNil)) (tgN 5)
  b_law_right_k12_1)
  (fSeq (fIf (toB (fUn sNotN (fV 2)))
  (fRet (fCall f_law_same (aCons (fV 4) (aCons (fV 0) aNil))))
  fSkip)
  (fRet (fAndV (fCall f_law_same (aCons (fCall f_law_told_k12 (aCons (fV 4) (aCons (fV 1) (aCons (fC .none) (aCons (fC (.bool false)) aNil))))) (aCons (fV 3) aNil))) (fCall f_law_same (aCons (fV 4) (aCons (fV 0) aNil)))))))))
def f_law_right_k12 : List D → Rs D := runB false 3 8 g_law_right_k12
theorem u_law_right_k12 (y0 y1 y2 : D) : f_law_right_k12 [y0, y1, y2] = (g_law_right_k12 [.va y0, .va y1, .va y2, .un, .un, .un, .un, .un]).res false := runB_eq rfl
/-- law(_law_script) -/
def g_law : Rho → Out := (fSeq (fAsgT (tgT [(tgN 1), (tgN 2), (tgN 3)]) (fCall f_law_shape (aCons (fV 0) (aCons (fC (.int 30)) aNil))))
  (fSeq (fAsg 4 (fCall f_law_number (aCons (fV 0) (aCons (fC (.int 3)) aNil))))
  (fSeq (fAsg 5 (fCl (o2 sMin2) (aCons (fC (.int 30)) (aCons (fBin sAdd (fV 2) (fBin sMod (fCl (o1 sInt) (aCons (fV 4) aNil)) (fC (.int 7)))) aNil))))
  (fSeq (fAsg 6 (fCall f_law_periods (aCons (fV 0) (aCons (fC (.int 4)) (aCons (fV 5) (aCons (fV 1) aNil))))))
  (fSeq (fAsg 7 (fBin sDiv (fV 4) (fC (.int 7))))
  (fSeq (fIf (toB (fBin sEq (fBin sMod (fCl (o1 sInt) (aCons (fV 7) aNil)) (fC (.int 8))) (fC (.int 0))))
  (fAsg 6 (fCall f_law_quiet (aCons (fV 6) (aCons (fBin sMod (fCl (o1 sInt) (aCons (fBin sDiv (fV 7) (fC (.int 8))) aNil)) (fBin sAdd (fV 5) (fC (.int 1)))) aNil))))
  fSkip)
  (fSeq (fAsg 8 (fCall f_law_cap (aCons (fV 0) (aCons (fV 1) aNil))))
  (fSeq (fAsg 9 (fCall f_law_final_k12 (aCons (fV 6) (aCons (fV 8) (aCons (fCall f_law_number (aCons (fV 0) (aCons (fC (.int 2)) aNil))) aNil)))))
  (fSeq (fIf (fOr (fNot (toB (fCall f_law_right_k12 (aCons (fV 6) (aCons (fV 9) (aCons (fV 8) aNil)))))) (fNot (toB (fCall f_law_right_k12 (aCons (fV 6) (aCons (fBin sSub (fUn sNeg (fC (.int 1))) (fV 9)) (aCons (fV 8) aNil)))))))
  (fRet (fC (.bool false)))
  fSkip)
  (fSeq (fIf (fOr (fNot (toB (fCall f_law_right_k12 (aCons (fV 6) (aCons (fV 9) (aCons (fC .none) aNil)))))) (fNot (toB (fCall f_law_right_k12 (aCons (fV 6) (aCons (fC (.int 0)) (aCons (fV 8) aNil)))))))
  (fRet (fC (.bool false)))
  fSkip)
  (fRet (fAndV (fCall f_law_right_k12 (aCons (fLst aNil) (aCons (fV 9) (aCons (fV 8) aNil)))) (fCall f_law_right_k12 (aCons (fLst aNil) (aCons (fBin sSub (fUn sNeg (fC (.int 1))) (fV 9)) (aCons (fV 8) aNil))))))))))))))))
def f_law : List D → Rs D := runB false 1 10 g_law
theorem u_law (y0 : D) : f_law [y0] = (g_law [.va y0, .un, .un, .un, .un, .un, .un, .un, .un, .un]).res false := runB_eq rfl
end Lw

namespace Lw
open PySem Ct L2
theorem cell_is (ns : List Int) (k : Int) (hk : 0 ≤ k) : ∃ c : Int, 0 ≤ c ∧ f_law_cell [scriptD ns, .int k] = .ok (.int c) := by
  rw [u_law_cell]
  unfold g_law_cell
  by_cases h : k < (ns.length : Int)
  · have hl : k.toNat < ns.length := by omega
    have e := ix_scr (ns := ns) (i := k) hk (List.getElem?_eq_getElem hl)
    refine ⟨if ns[k.toNat] < 0 then -ns[k.toNat] else ns[k.toNat], by split <;> omega, ?_⟩
    simp [h, e]
  · exact ⟨0, Int.le_refl _, by simp [h]⟩
theorem number_is (ns : List Int) (k : Int) (hk : 0 ≤ k) (hk2 : k < 1000) : ∃ c : Int, 0 ≤ c ∧ f_law_number [scriptD ns, .int k] = .ok (.int c) := by
  obtain ⟨c, hc, e⟩ := cell_is ns k hk
  rw [u_law_number]
  unfold g_law_number
  by_cases h : (1000000000000000000 : Int) ≤ c
  · exact ⟨c, hc, by simp [e, h]⟩
  · have sk : Sm 60 k := by unfold Sm; omega
    have m1 : sMul (.int c) (.int 48271) = .ok (.int (c * 48271)) := mul_ok (a := 60) (b := 60) (by unfold Sm; omega) (by unfold Sm; omega)
    have m2 : sMul (.int 7) (.int k) = .ok (.int (7 * k)) := mul_ok (a := 60) (b := 60) (by unfold Sm; omega) sk
    have m3 : ∀ i : Int, sMul (.int (i % 2147483647)) (.int 69621) = .ok (.int (i % 2147483647 * 69621)) := fun i => mul_ok (a := 60) (b := 60) (by unfold Sm; omega) (by unfold Sm; omega)
    have m4 : sMul (.int 13) (.int k) = .ok (.int (13 * k)) := mul_ok (a := 60) (b := 60) (by unfold Sm; omega) sk
    have m5 : ∀ i : Int, sMul (.int 2147483647) (.int (i % 2147483629)) = .ok (.int (2147483647 * (i % 2147483629))) := fun i => mul_ok (a := 60) (b := 60) (by unfold Sm; omega) (by unfold Sm; omega)
    have d1 : ∀ i : Int, sMod (.int i) (.int 2147483647) = .ok (.int (i % 2147483647)) := fun i => q_sMod (by decide)
    have d2 : ∀ i : Int, sMod (.int i) (.int 2147483629) = .ok (.int (i % 2147483629)) := fun i => q_sMod (by decide)
    refine ⟨(c * 48271 + 7 * k + 11) % 2147483647 + 2147483647 * (((c * 48271 + 7 * k + 11) % 2147483647 * 69621 + 13 * k + 5) % 2147483629), by omega, ?_⟩
    simp [e, h, m1, m2, m3, m4, m5, d1, d2]
/-- a period -/
def pd (x : Int × Int × Int) : D := .tuple [.int x.1, .int x.2.1, .int x.2.2]
structure Good (x : Int × Int × Int) : Prop where
  d0 : 0 ≤ x.1
  s0 : 0 ≤ x.2.1
  h1 : 1 ≤ x.2.2
  db : x.1 < 10 ^ 60
  sb : x.2.1 < 10 ^ 60
  hb : x.2.2 < 10 ^ 60
def rowsD (l : List (Int × Int × Int)) : D := .list (l.map pd)
theorem dv_ok (i j : Int) (h1 : 0 < j) (h2 : Sm 400 j) : sDiv (.int i) (.int j) = .ok (.int (i / j)) := q_sDiv h1 (Nat.lt_of_le_of_lt h2.log (by decide))
theorem period5 (n : Int) : ∃ x, Good x ∧ f_law_period [.int n, .int 5] = .ok (pd x) := by
  rw [u_law_period]
  unfold g_law_period
  have m1 : ∀ i : Int, sMul (.int (i % 1000000000000000000000000000000000000000000000000000000000000)) (.int (i % 1000000000000000000000000000000000000000000000000000000000000)) = .ok (.int (i % 1000000000000000000000000000000000000000000000000000000000000 * (i % 1000000000000000000000000000000000000000000000000000000000000))) := fun i => mul_ok (a := 300) (b := 300) (by unfold Sm; omega) (by unfold Sm; omega)
  have m2 : ∀ i : Int, sMul (.int 7919) (.int (i % 1000000000000000000000000000000000000000000000000000000000000)) = .ok (.int (7919 * (i % 1000000000000000000000000000000000000000000000000000000000000))) := fun i => mul_ok (a := 300) (b := 300) (by unfold Sm; omega) (by unfold Sm; omega)
  have d1 : ∀ i : Int, sMod (.int i) (.int 1000000000000000000000000000000000000000000000000000000000000) = .ok (.int (i % 1000000000000000000000000000000000000000000000000000000000000)) := fun i => q_sMod (by decide)
  have d2 : ∀ i : Int, sMod (.int i) (.int 1000000000000000000000000000000) = .ok (.int (i % 1000000000000000000000000000000)) := fun i => q_sMod (by decide)
  have d3 : ∀ i : Int, sDiv (.int i) (.int 1000000000000000000000000000000) = .ok (.int (i / 1000000000000000000000000000000)) := fun i => dv_ok _ _ (by decide) (by unfold Sm; omega)
  have d4 : ∀ i : Int, sDiv (.int i) (.int 1000000000000000000000000000000000000000000000) = .ok (.int (i / 1000000000000000000000000000000000000000000000)) := fun i => dv_ok _ _ (by decide) (by unfold Sm; omega)
  refine ⟨(n % 1000000000000000000000000000000000000000000000000000000000000 % 1000000000000000000000000000000, (n / 1000000000000000000000000000000 + n % 1000000000000000000000000000000000000000000000000000000000000 * (n % 1000000000000000000000000000000000000000000000000000000000000)) % 1000000000000000000000000000000000000000000000000000000000000, 1 + (n / 1000000000000000000000000000000000000000000000 / 1000000000000000000000000000000000000000000000 + 7919 * (n % 1000000000000000000000000000000000000000000000000000000000000)) % 1000000000000000000000000000000), ?_, ?_⟩
  · constructor <;> dsimp only <;> omega
  · simp [m1, m2, d1, d2, d3, d4, pd]
theorem period0 (n : Int) : ∃ x, Good x ∧ f_law_period [.int n, .int 0] = .ok (pd x) := by
  rw [u_law_period]
  unfold g_law_period
  have ix : sIx (.list [.tuple [.int 4, .int 8, .int 2], .tuple [.int 10, .int 40, .int 4], .tuple [.int 61, .int 301, .int 9], .tuple [.int 1000000, .int 1000000000, .int 1000], .tuple [.int 7, .int 30, .int 3]]) (.int 0) = .ok (.tuple [.int 4, .int 8, .int 2]) := rfl
  have m1 : sMul (.int 4) (.int 8) = .ok (.int 32) := mul_ok (a := 100) (b := 100) (by unfold Sm; omega) (by unfold Sm; omega)
  have m2 : sMul (.int 32) (.int 2) = .ok (.int 64) := mul_ok (a := 100) (b := 100) (by unfold Sm; omega) (by unfold Sm; omega)
  have e0 : ∀ i : Int, sMod (.int i) (.int 2) = .ok (.int (i % 2)) := fun i => q_sMod (by decide)
  have e1 : ∀ i : Int, sMod (.int i) (.int 4) = .ok (.int (i % 4)) := fun i => q_sMod (by decide)
  have e2 : ∀ i : Int, sMod (.int i) (.int 6) = .ok (.int (i % 6)) := fun i => q_sMod (by decide)
  have e3 : ∀ i : Int, sMod (.int i) (.int 8) = .ok (.int (i % 8)) := fun i => q_sMod (by decide)
  have f0 : ∀ i : Int, sDiv (.int i) (.int 4) = .ok (.int (i / 4)) := fun i => dv_ok _ _ (by decide) (by unfold Sm; omega)
  have f1 : ∀ i : Int, sDiv (.int i) (.int 32) = .ok (.int (i / 32)) := fun i => dv_ok _ _ (by decide) (by unfold Sm; omega)
  have f2 : ∀ i : Int, sDiv (.int i) (.int 64) = .ok (.int (i / 64)) := fun i => dv_ok _ _ (by decide) (by unfold Sm; omega)
  by_cases h0 : n / 64 % 6 = 0
  · refine ⟨(0, n / 4 % 8, 1 + n / 32 % 2), ?_, ?_⟩
    · constructor <;> dsimp only <;> omega
    · simp [h0, pd, ix, m1, m2, e0, e1, e2, e3, f0, f1, f2]
  · by_cases h1 : n / 64 % 6 = 1
    · refine ⟨(n % 4, 0, 1 + n / 32 % 2), ?_, ?_⟩
      · constructor <;> dsimp only <;> omega
      · simp [h1, pd, ix, m1, m2, e0, e1, e2, e3, f0, f1, f2]
    · refine ⟨(n % 4, n / 4 % 8, 1 + n / 32 % 2), ?_, ?_⟩
      · constructor <;> dsimp only <;> omega
      · simp [h0, h1, pd, ix, m1, m2, e0, e1, e2, e3, f0, f1, f2]
theorem period1 (n : Int) : ∃ x, Good x ∧ f_law_period [.int n, .int 1] = .ok (pd x) := by
  rw [u_law_period]
  unfold g_law_period
  have ix : sIx (.list [.tuple [.int 4, .int 8, .int 2], .tuple [.int 10, .int 40, .int 4], .tuple [.int 61, .int 301, .int 9], .tuple [.int 1000000, .int 1000000000, .int 1000], .tuple [.int 7, .int 30, .int 3]]) (.int 1) = .ok (.tuple [.int 10, .int 40, .int 4]) := rfl
  have m1 : sMul (.int 10) (.int 40) = .ok (.int 400) := mul_ok (a := 100) (b := 100) (by unfold Sm; omega) (by unfold Sm; omega)
  have m2 : sMul (.int 400) (.int 4) = .ok (.int 1600) := mul_ok (a := 100) (b := 100) (by unfold Sm; omega) (by unfold Sm; omega)
  have e0 : ∀ i : Int, sMod (.int i) (.int 4) = .ok (.int (i % 4)) := fun i => q_sMod (by decide)
  have e1 : ∀ i : Int, sMod (.int i) (.int 6) = .ok (.int (i % 6)) := fun i => q_sMod (by decide)
  have e2 : ∀ i : Int, sMod (.int i) (.int 10) = .ok (.int (i % 10)) := fun i => q_sMod (by decide)
  have e3 : ∀ i : Int, sMod (.int i) (.int 40) = .ok (.int (i % 40)) := fun i => q_sMod (by decide)
  have f0 : ∀ i : Int, sDiv (.int i) (.int 10) = .ok (.int (i / 10)) := fun i => dv_ok _ _ (by decide) (by unfold Sm; omega)
  have f1 : ∀ i : Int, sDiv (.int i) (.int 400) = .ok (.int (i / 400)) := fun i => dv_ok _ _ (by decide) (by unfold Sm; omega)
  have f2 : ∀ i : Int, sDiv (.int i) (.int 1600) = .ok (.int (i / 1600)) := fun i => dv_ok _ _ (by decide) (by unfold Sm; omega)
  by_cases h0 : n / 1600 % 6 = 0
  · refine ⟨(0, n / 10 % 40, 1 + n / 400 % 4), ?_, ?_⟩
    · constructor <;> dsimp only <;> omega
    · simp [h0, pd, ix, m1, m2, e0, e1, e2, e3, f0, f1, f2]
  · by_cases h1 : n / 1600 % 6 = 1
    · refine ⟨(n % 10, 0, 1 + n / 400 % 4), ?_, ?_⟩
      · constructor <;> dsimp only <;> omega
      · simp [h1, pd, ix, m1, m2, e0, e1, e2, e3, f0, f1, f2]
    · refine ⟨(n % 10, n / 10 % 40, 1 + n / 400 % 4), ?_, ?_⟩
      · constructor <;> dsimp only <;> omega
      · simp [h0, h1, pd, ix, m1, m2, e0, e1, e2, e3, f0, f1, f2]
theorem period2 (n : Int) : ∃ x, Good x ∧ f_law_period [.int n, .int 2] = .ok (pd x) := by
  rw [u_law_period]
  unfold g_law_period
  have ix : sIx (.list [.tuple [.int 4, .int 8, .int 2], .tuple [.int 10, .int 40, .int 4], .tuple [.int 61, .int 301, .int 9], .tuple [.int 1000000, .int 1000000000, .int 1000], .tuple [.int 7, .int 30, .int 3]]) (.int 2) = .ok (.tuple [.int 61, .int 301, .int 9]) := rfl
  have m1 : sMul (.int 61) (.int 301) = .ok (.int 18361) := mul_ok (a := 100) (b := 100) (by unfold Sm; omega) (by unfold Sm; omega)
  have m2 : sMul (.int 18361) (.int 9) = .ok (.int 165249) := mul_ok (a := 100) (b := 100) (by unfold Sm; omega) (by unfold Sm; omega)
  have e0 : ∀ i : Int, sMod (.int i) (.int 6) = .ok (.int (i % 6)) := fun i => q_sMod (by decide)
  have e1 : ∀ i : Int, sMod (.int i) (.int 9) = .ok (.int (i % 9)) := fun i => q_sMod (by decide)
  have e2 : ∀ i : Int, sMod (.int i) (.int 61) = .ok (.int (i % 61)) := fun i => q_sMod (by decide)
  have e3 : ∀ i : Int, sMod (.int i) (.int 301) = .ok (.int (i % 301)) := fun i => q_sMod (by decide)
  have f0 : ∀ i : Int, sDiv (.int i) (.int 61) = .ok (.int (i / 61)) := fun i => dv_ok _ _ (by decide) (by unfold Sm; omega)
  have f1 : ∀ i : Int, sDiv (.int i) (.int 18361) = .ok (.int (i / 18361)) := fun i => dv_ok _ _ (by decide) (by unfold Sm; omega)
  have f2 : ∀ i : Int, sDiv (.int i) (.int 165249) = .ok (.int (i / 165249)) := fun i => dv_ok _ _ (by decide) (by unfold Sm; omega)
  by_cases h0 : n / 165249 % 6 = 0
  · refine ⟨(0, n / 61 % 301, 1 + n / 18361 % 9), ?_, ?_⟩
    · constructor <;> dsimp only <;> omega
    · simp [h0, pd, ix, m1, m2, e0, e1, e2, e3, f0, f1, f2]
  · by_cases h1 : n / 165249 % 6 = 1
    · refine ⟨(n % 61, 0, 1 + n / 18361 % 9), ?_, ?_⟩
      · constructor <;> dsimp only <;> omega
      · simp [h1, pd, ix, m1, m2, e0, e1, e2, e3, f0, f1, f2]
    · refine ⟨(n % 61, n / 61 % 301, 1 + n / 18361 % 9), ?_, ?_⟩
      · constructor <;> dsimp only <;> omega
      · simp [h0, h1, pd, ix, m1, m2, e0, e1, e2, e3, f0, f1, f2]
theorem period3 (n : Int) : ∃ x, Good x ∧ f_law_period [.int n, .int 3] = .ok (pd x) := by
  rw [u_law_period]
  unfold g_law_period
  have ix : sIx (.list [.tuple [.int 4, .int 8, .int 2], .tuple [.int 10, .int 40, .int 4], .tuple [.int 61, .int 301, .int 9], .tuple [.int 1000000, .int 1000000000, .int 1000], .tuple [.int 7, .int 30, .int 3]]) (.int 3) = .ok (.tuple [.int 1000000, .int 1000000000, .int 1000]) := rfl
  have m1 : sMul (.int 1000000) (.int 1000000000) = .ok (.int 1000000000000000) := mul_ok (a := 100) (b := 100) (by unfold Sm; omega) (by unfold Sm; omega)
  have m2 : sMul (.int 1000000000000000) (.int 1000) = .ok (.int 1000000000000000000) := mul_ok (a := 100) (b := 100) (by unfold Sm; omega) (by unfold Sm; omega)
  have e0 : ∀ i : Int, sMod (.int i) (.int 6) = .ok (.int (i % 6)) := fun i => q_sMod (by decide)
  have e1 : ∀ i : Int, sMod (.int i) (.int 1000) = .ok (.int (i % 1000)) := fun i => q_sMod (by decide)
  have e2 : ∀ i : Int, sMod (.int i) (.int 1000000) = .ok (.int (i % 1000000)) := fun i => q_sMod (by decide)
  have e3 : ∀ i : Int, sMod (.int i) (.int 1000000000) = .ok (.int (i % 1000000000)) := fun i => q_sMod (by decide)
  have f0 : ∀ i : Int, sDiv (.int i) (.int 1000000) = .ok (.int (i / 1000000)) := fun i => dv_ok _ _ (by decide) (by unfold Sm; omega)
  have f1 : ∀ i : Int, sDiv (.int i) (.int 1000000000000000) = .ok (.int (i / 1000000000000000)) := fun i => dv_ok _ _ (by decide) (by unfold Sm; omega)
  have f2 : ∀ i : Int, sDiv (.int i) (.int 1000000000000000000) = .ok (.int (i / 1000000000000000000)) := fun i => dv_ok _ _ (by decide) (by unfold Sm; omega)
  by_cases h0 : n / 1000000000000000000 % 6 = 0
  · refine ⟨(0, n / 1000000 % 1000000000, 1 + n / 1000000000000000 % 1000), ?_, ?_⟩
    · constructor <;> dsimp only <;> omega
    · simp [h0, pd, ix, m1, m2, e0, e1, e2, e3, f0, f1, f2]
  · by_cases h1 : n / 1000000000000000000 % 6 = 1
    · refine ⟨(n % 1000000, 0, 1 + n / 1000000000000000 % 1000), ?_, ?_⟩
      · constructor <;> dsimp only <;> omega
      · simp [h1, pd, ix, m1, m2, e0, e1, e2, e3, f0, f1, f2]
    · refine ⟨(n % 1000000, n / 1000000 % 1000000000, 1 + n / 1000000000000000 % 1000), ?_, ?_⟩
      · constructor <;> dsimp only <;> omega
      · simp [h0, h1, pd, ix, m1, m2, e0, e1, e2, e3, f0, f1, f2]
theorem period4 (n : Int) : ∃ x, Good x ∧ f_law_period [.int n, .int 4] = .ok (pd x) := by
  rw [u_law_period]
  unfold g_law_period
  have ix : sIx (.list [.tuple [.int 4, .int 8, .int 2], .tuple [.int 10, .int 40, .int 4], .tuple [.int 61, .int 301, .int 9], .tuple [.int 1000000, .int 1000000000, .int 1000], .tuple [.int 7, .int 30, .int 3]]) (.int 4) = .ok (.tuple [.int 7, .int 30, .int 3]) := rfl
  have m1 : sMul (.int 7) (.int 30) = .ok (.int 210) := mul_ok (a := 100) (b := 100) (by unfold Sm; omega) (by unfold Sm; omega)
  have m2 : sMul (.int 210) (.int 3) = .ok (.int 630) := mul_ok (a := 100) (b := 100) (by unfold Sm; omega) (by unfold Sm; omega)
  have e0 : ∀ i : Int, sMod (.int i) (.int 3) = .ok (.int (i % 3)) := fun i => q_sMod (by decide)
  have e1 : ∀ i : Int, sMod (.int i) (.int 6) = .ok (.int (i % 6)) := fun i => q_sMod (by decide)
  have e2 : ∀ i : Int, sMod (.int i) (.int 7) = .ok (.int (i % 7)) := fun i => q_sMod (by decide)
  have e3 : ∀ i : Int, sMod (.int i) (.int 30) = .ok (.int (i % 30)) := fun i => q_sMod (by decide)
  have f0 : ∀ i : Int, sDiv (.int i) (.int 7) = .ok (.int (i / 7)) := fun i => dv_ok _ _ (by decide) (by unfold Sm; omega)
  have f1 : ∀ i : Int, sDiv (.int i) (.int 210) = .ok (.int (i / 210)) := fun i => dv_ok _ _ (by decide) (by unfold Sm; omega)
  have f2 : ∀ i : Int, sDiv (.int i) (.int 630) = .ok (.int (i / 630)) := fun i => dv_ok _ _ (by decide) (by unfold Sm; omega)
  have k1 : ∀ i : Int, sMul (.int (i % 7)) (.int 1000000000000) = .ok (.int (i % 7 * 1000000000000)) := fun i => mul_ok (a := 100) (b := 100) (by unfold Sm; omega) (by unfold Sm; omega)
  have k2 : ∀ i : Int, sMul (.int (i % 30)) (.int 1000000000000000000000) = .ok (.int (i % 30 * 1000000000000000000000)) := fun i => mul_ok (a := 100) (b := 100) (by unfold Sm; omega) (by unfold Sm; omega)
  have k3 : ∀ i : Int, sMul (.int (1 + i % 3)) (.int 1000000000) = .ok (.int ((1 + i % 3) * 1000000000)) := fun i => mul_ok (a := 100) (b := 100) (by unfold Sm; omega) (by unfold Sm; omega)
  have k4 : ∀ j : Int, Sm 100 j → sMul (.int 0) (.int j) = .ok (.int (0 * j)) := fun j h => mul_ok (a := 100) (b := 100) (by unfold Sm; omega) h
  have k5 := k4 1000000000000 (by unfold Sm; omega)
  have k6 := k4 1000000000000000000000 (by unfold Sm; omega)
  by_cases h0 : n / 630 % 6 = 0
  · refine ⟨(0 * 1000000000000, n / 7 % 30 * 1000000000000000000000, (1 + n / 210 % 3) * 1000000000), ?_, ?_⟩
    · constructor <;> dsimp only <;> omega
    · simp [h0, pd, ix, m1, m2, e0, e1, e2, e3, f0, f1, f2, k1, k2, k3, k5, k6]
  · by_cases h1 : n / 630 % 6 = 1
    · refine ⟨(n % 7 * 1000000000000, 0 * 1000000000000000000000, (1 + n / 210 % 3) * 1000000000), ?_, ?_⟩
      · constructor <;> dsimp only <;> omega
      · simp [h1, pd, ix, m1, m2, e0, e1, e2, e3, f0, f1, f2, k1, k2, k3, k5, k6]
    · refine ⟨(n % 7 * 1000000000000, n / 7 % 30 * 1000000000000000000000, (1 + n / 210 % 3) * 1000000000), ?_, ?_⟩
      · constructor <;> dsimp only <;> omega
      · simp [h0, h1, pd, ix, m1, m2, e0, e1, e2, e3, f0, f1, f2, k1, k2, k3, k5, k6]
theorem period_is (n sc : Int) (h0 : 0 ≤ sc) (h5 : sc ≤ 5) : ∃ x, Good x ∧ f_law_period [.int n, .int sc] = .ok (pd x) := by
  have : sc = 0 ∨ sc = 1 ∨ sc = 2 ∨ sc = 3 ∨ sc = 4 ∨ sc = 5 := by omega
  rcases this with rfl | rfl | rfl | rfl | rfl | rfl
  · exact period0 n
  · exact period1 n
  · exact period2 n
  · exact period3 n
  · exact period4 n
  · exact period5 n
end Lw

namespace Lw
open PySem Ct L2
theorem comp_ex {α : Type} {tg : Tg} {e : Rho → Rs D} {ρ : Rho} (p : α → D) (P : α → Prop) : ∀ (ds : List D), (∀ d ∈ ds, ∃ ρ1 x, tg d ρ = .ok ρ1 ∧ e ρ1 = .ok (p x) ∧ P x) → ∃ l : List α, l.length = ds.length ∧ (∀ x ∈ l, P x) ∧ compS tg fYes e ρ ds = .ok (l.map p)
  | [], _ => ⟨[], rfl, fun _ h => (nomatch h), rfl⟩
  | d :: ds, h => by
    obtain ⟨ρ1, x, e1, e2, hx⟩ := h d List.mem_cons_self
    obtain ⟨l, h1, h2, h3⟩ := comp_ex p P ds fun d hd => h d (List.mem_cons_of_mem _ hd)
    refine ⟨x :: l, by simp [h1], fun y hy => ?_, ?_⟩
    · rcases List.mem_cons.mp hy with rfl | hy
      · exact hx
      · exact h2 y hy
    · simp only [compS, e1, fYes, e2, h3, Rs.bind_ok, List.map_cons]
theorem comp_mp {α : Type} {tg : Tg} {e : Rho → Rs D} {ρ : Rho} (p q : α → D) : ∀ (l : List α), (∀ x ∈ l, ∃ ρ1, tg (p x) ρ = .ok ρ1 ∧ e ρ1 = .ok (q x)) → compS tg fYes e ρ (l.map p) = .ok (l.map q)
  | [], _ => rfl
  | x :: l, h => by
    obtain ⟨ρ1, e1, e2⟩ := h x List.mem_cons_self
    have h3 := comp_mp p q l fun d hd => h d (List.mem_cons_of_mem _ hd)
    simp only [compS, e1, fYes, e2, h3, Rs.bind_ok, List.map_cons]
theorem rng_mem {j : Int} {d : D} (h : d ∈ rngD 0 j) : ∃ i : Nat, d = .int (i : Int) ∧ (i : Int) < j := by
  obtain ⟨i, e⟩ := List.getElem?_of_mem h
  exact ⟨i, rng_at e⟩
theorem periods_is (ns : List Int) (st ct sc : Int) (h1 : 0 ≤ st) (h2 : st ≤ 400) (h0 : 0 ≤ ct) (h3 : ct ≤ 400) (h4 : 0 ≤ sc) (h5 : sc ≤ 5) : ∃ l, l.length = ct.toNat ∧ (∀ x ∈ l, Good x) ∧ f_law_periods [scriptD ns, .int st, .int ct, .int sc] = .ok (rowsD l) := by
  rw [u_law_periods]
  unfold g_law_periods c_law_periods_1
  obtain ⟨l, e1, e2, e3⟩ := comp_ex (tg := tgN 4) (e := fCall f_law_period (aCons (fCall f_law_number (aCons (fV 0) (aCons (fBin sAdd (fV 1) (fV 4)) aNil))) (aCons (fV 3) aNil))) (ρ := [.va (scriptD ns), .va (.int st), .va (.int ct), .va (.int sc), .un]) pd Good (rngD 0 ct) fun d hd => by
    obtain ⟨i, rfl, hi⟩ := rng_mem hd
    obtain ⟨c, hc, ec⟩ := number_is ns (st + i) (by omega) (by omega)
    obtain ⟨x, hx, ex⟩ := period_is c sc h4 h5
    exact ⟨_, x, rfl, by simp [ec, ex], hx⟩
  refine ⟨l, by rw [e1, rng_len], e2, ?_⟩
  have hz : (rngD 0 ct).length ≤ sizeLine := by rw [rng_len]; exact le_size (by omega)
  have hr := rg1_ok (j := ct) (by omega) (by omega)
  have ew : wipeR [.va (scriptD ns), .va (.int st), .va (.int ct), .va (.int sc), .un] [4] = [.va (scriptD ns), .va (.int st), .va (.int ct), .va (.int sc), .un] := rfl
  have hz' : ct.toNat ≤ sizeLine := le_size (by omega)
  simp [fComp, hr, ew, e3, hz', rowsD]
theorem shape_is (ns : List Int) (mo : Int) (hm : 5 ≤ mo) : ∃ sc kn la : Int, 0 ≤ sc ∧ sc ≤ 5 ∧ 1 ≤ kn ∧ 0 ≤ la ∧ (kn + la ≤ 9 ∨ kn + la ≤ mo) ∧ f_law_shape [scriptD ns, .int mo] = .ok (.tuple [.int sc, .int kn, .int la]) := by
  obtain ⟨c, hc, e⟩ := cell_is ns 0 (by omega)
  rw [u_law_shape]
  unfold g_law_shape
  have d1 : ∀ i : Int, sDiv (.int i) (.int 6) = .ok (.int (i / 6)) := fun i => dv_ok _ _ (by decide) (by unfold Sm; omega)
  have d2 : ∀ i : Int, sDiv (.int i) (.int 4) = .ok (.int (i / 4)) := fun i => dv_ok _ _ (by decide) (by unfold Sm; omega)
  have d3 : ∀ i : Int, sDiv (.int i) (.int 24) = .ok (.int (i / 24)) := fun i => dv_ok _ _ (by decide) (by unfold Sm; omega)
  have m1 : ∀ i : Int, sMod (.int i) (.int 6) = .ok (.int (i % 6)) := fun i => q_sMod (by decide)
  have m2 : ∀ i : Int, sMod (.int i) (.int 4) = .ok (.int (i % 4)) := fun i => q_sMod (by decide)
  by_cases h : c / 6 % 4 = 3 ∧ (8 : Int) < (ns.length : Int)
  · have m3 : ∀ i : Int, sMod (.int i) (.int (min ((ns.length : Int) - 4) mo)) = .ok (.int (i % (min ((ns.length : Int) - 4) mo))) := fun i => q_sMod (by omega)
    generalize ht : (min ((ns.length : Int) - 4) mo) = t at m3
    have t5 : 5 ≤ t ∧ t ≤ mo := by omega
    have b1 := Int.emod_nonneg (c / 6 / 4) (show t ≠ 0 by omega)
    have b2 := Int.emod_lt_of_pos (c / 6 / 4) (show 0 < t by omega)
    refine ⟨c % 6, 1 + c / 6 / 4 % t, t - (1 + c / 6 / 4 % t), by omega, by omega, by omega, by omega, .inr (by omega), ?_⟩
    have h8 : (8 : Int) < (ns.length : Int) := h.2
    have h8' : 8 < ns.length := by omega
    simp [e, d1, d2, d3, m1, m2, h.1, h8, ht, m3]
  · refine ⟨c % 6, 1 + c / 6 / 4 % 6, c / 6 / 24 % 4, by omega, by omega, by omega, by omega, .inl (by omega), ?_⟩
    by_cases h1 : c / 6 % 4 = 3
    · have h8' : ¬ 8 < ns.length := fun z => h ⟨h1, by omega⟩
      have h8 : ¬ (8 : Int) < (ns.length : Int) := fun z => h ⟨h1, z⟩
      simp [e, d1, d2, d3, m1, m2, h1, h8]
    · simp [e, d1, d2, d3, m1, m2, h1]
end Lw

/-! same values; the periods' checks -/
namespace Lw
open PySem Ct L2
abbrev Per := Int × Int × Int
/-- what the programs' functions are shown for -/
structure Gd (x : Per) : Prop where
  d0 : 0 ≤ x.1
  s0 : 0 ≤ x.2.1
  h1 : 1 ≤ x.2.2
  db : x.1 ≤ 1000000 * BC
  hb : x.2.2 ≤ BB
/-- numbers that are not too great -/
def Sml (l : List Per) : Prop := ∀ x ∈ l, x.1 ≤ BB ∧ x.2.1 ≤ BB
theorem Sml.of {l : List Per} (h : ∀ x ∈ l, Good x) : Sml l := fun x hx => by
  have := (h x hx).db
  have := (h x hx).sb
  have := BB_le 60
  exact ⟨by omega, by omega⟩
theorem Sml.tail {x : Per} {l : List Per} (h : Sml (x :: l)) : Sml l := fun y hy => h y (List.mem_cons_of_mem _ hy)
theorem Sml.take {l : List Per} (h : Sml l) (k : Nat) : Sml (l.take k) := fun y hy => h y (List.mem_of_mem_take hy)
theorem Sml.drop {l : List Per} (h : Sml l) (k : Nat) : Sml (l.drop k) := fun y hy => h y (List.mem_of_mem_drop hy)
theorem Sml.app {l m : List Per} (h : Sml l) (h2 : Sml m) : Sml (l ++ m) := fun y hy => by
  rcases List.mem_append.mp hy with z | z
  · exact h y z
  · exact h2 y z
theorem Good.gd {x : Per} (h : Good x) : Gd x := by
  obtain ⟨h1, h2, h3, h4, h5, h6⟩ := h
  have := BB_le 60
  have := BC_big
  exact ⟨h1, h2, h3, by omega, by omega⟩
def Gds (l : List Per) : Prop := ∀ x ∈ l, Gd x
theorem Gds.of {l : List Per} (h : ∀ x ∈ l, Good x) : Gds l := fun x hx => (h x hx).gd
theorem Gds.tail {x : Per} {l : List Per} (h : Gds (x :: l)) : Gds l := fun y hy => h y (List.mem_cons_of_mem _ hy)
theorem Gds.head {x : Per} {l : List Per} (h : Gds (x :: l)) : Gd x := h x List.mem_cons_self
theorem Gds.take {l : List Per} (h : Gds l) (k : Nat) : Gds (l.take k) := fun y hy => h y (List.mem_of_mem_take hy)
theorem Gds.drop {l : List Per} (h : Gds l) (k : Nat) : Gds (l.drop k) := fun y hy => h y (List.mem_of_mem_drop hy)
theorem Gds.app {l m : List Per} (h : Gds l) (h2 : Gds m) : Gds (l ++ m) := fun y hy => by
  rcases List.mem_append.mp hy with z | z
  · exact h y z
  · exact h2 y z
theorem Gds.at {l : List Per} (h : Gds l) {k : Nat} {x : Per} (e : l[k]? = some x) : Gd x := h x (List.mem_of_getElem? e)
def intsL (o : List Int) : D := .list (o.map PyData.int)
@[simp] theorem len_ints (o : List Int) : sLen (intsL o) = .ok (.int (o.length : Int)) := by simp [intsL]
@[simp] theorem lst_ints (o : List Int) : sList (intsL o) = .ok (intsL o) := by simp [intsL]
@[simp] theorem kl_ints (o : List Int) : kLst (intsL o) = .ok (o.map PyData.int) := id rfl
@[simp] theorem kl_rows (l : List Per) : kLst (rowsD l) = .ok (l.map pd) := id rfl
@[simp] theorem ke_ints (o : List Int) : kEnu (intsL o) = .ok (enumD 0 (o.map PyData.int)) := id rfl
@[simp] theorem ke_rows (l : List Per) : kEnu (rowsD l) = .ok (enumD 0 (l.map pd)) := id rfl
@[simp] theorem ko_ints (i : Nat) (ρ : Rho) (o : List Int) : kOwn i ρ (intsL o) = .nx (ρ.set i (.ow (o.map PyData.int))) := id rfl
@[simp] theorem ko_rows (i : Nat) (ρ : Rho) (o : List Per) : kOwn i ρ (rowsD o) = .nx (ρ.set i (.ow (o.map pd))) := id rfl
@[simp] theorem ints_f (o : List Int) : PyData.list (o.map PyData.int) = intsL o := id rfl
@[simp] theorem rows_f (o : List Per) : PyData.list (o.map pd) = rowsD o := id rfl
/-- plain values, of no great depth -/
def PlN : Nat → D → Prop
  | _, .none => True
  | _, .bool _ => True
  | _, .int _ => True
  | 0, _ => False
  | n + 1, .list ds => ds.length ≤ 1000 ∧ ∀ d ∈ ds, PlN n d
  | n + 1, .tuple ds => ds.length ≤ 1000 ∧ ∀ d ∈ ds, PlN n d
  | _, _ => False
theorem PlN.up : ∀ {n : Nat} {d : D}, PlN n d → PlN (n + 1) d
  | _, .none, _ => by simp [PlN]
  | _, .bool _, _ => by simp [PlN]
  | _, .int _, _ => by simp [PlN]
  | 0, .list _, h => by simp [PlN] at h
  | 0, .tuple _, h => by simp [PlN] at h
  | 0, .str _, h => by simp [PlN] at h
  | 0, .dict _, h => by simp [PlN] at h
  | n + 1, .list ds, h => by
    simp only [PlN] at h ⊢
    exact ⟨h.1, fun d hd => (h.2 d hd).up⟩
  | n + 1, .tuple ds, h => by
    simp only [PlN] at h ⊢
    exact ⟨h.1, fun d hd => (h.2 d hd).up⟩
  | n + 1, .str _, h => by simp [PlN] at h
  | n + 1, .dict _, h => by simp [PlN] at h
theorem PlN.le {n m : Nat} {d : D} (h : PlN n d) (le : n ≤ m) : PlN m d := by
  induction le with
  | refl => exact h
  | step _ ih => exact ih.up
theorem same_int (n : Nat) (i : Int) : h_law_same (n + 1) [.int i, .int i] = .ok (.bool true) := by
  rw [u_law_same]
  unfold g_law_same
  simp
theorem same_bool (n : Nat) (i : Bool) : h_law_same (n + 1) [.bool i, .bool i] = .ok (.bool true) := by
  rw [u_law_same]
  unfold g_law_same
  have : sEq (.bool i) (.bool i) = .ok (.bool true) := by cases i <;> rfl
  simp [this]
theorem same_none (n : Nat) : h_law_same (n + 1) [.none, .none] = .ok (.bool true) := by
  rw [u_law_same]
  unfold g_law_same
  simp
theorem same_loop (n : Nat) (x : D) (ds : List D) (hx : ∀ (i : Nat) d, ds[i]? = some d → sIx x (.int (i : Int)) = .ok d) (h : ∀ d ∈ ds, h_law_same n [d, d] = .ok (.bool true)) (s : Sl) :
    ∃ s', loopS (tgN 2) (fIf (fNot (toB (fCall (h_law_same n) (aCons (fBin sIx (fV 0) (fV 2)) (aCons (fBin sIx (fV 1) (fV 2)) aNil))))) (fRet (fC (.bool false))) fSkip) (rngD 0 (ds.length : Int)) [.va x, .va x, s] = .nx [.va x, .va x, s'] := by
  obtain ⟨ρ', e, s', rfl⟩ := loop_inv (tg := tgN 2) (body := fIf (fNot (toB (fCall (h_law_same n) (aCons (fBin sIx (fV 0) (fV 2)) (aCons (fBin sIx (fV 1) (fV 2)) aNil))))) (fRet (fC (.bool false))) fSkip) (fun _ ρ => ∃ s', ρ = [.va x, .va x, s']) (rngD 0 (ds.length : Int)) 0 [.va x, .va x, s] ⟨s, rfl⟩ fun i d ρ e hI => by
    obtain ⟨s', rfl⟩ := hI
    obtain ⟨rfl, hi⟩ := rng_at e
    have hl : i < ds.length := by omega
    have e1 := hx i ds[i] (List.getElem?_eq_getElem hl)
    have e2 := h ds[i] (List.getElem_mem hl)
    refine ⟨_, [.va x, .va x, .va (.int i)], rfl, .inl ?_, _, rfl⟩
    simp [e1, e2]
  exact ⟨s', e⟩
theorem same_list (n : Nat) (ds : List D) (hl : ds.length ≤ 1000) (h : ∀ d ∈ ds, h_law_same n [d, d] = .ok (.bool true)) : h_law_same (n + 1) [.list ds, .list ds] = .ok (.bool true) := by
  obtain ⟨s', e⟩ := same_loop n (.list ds) ds (fun i d hd => ix_list (by omega) (by simpa using hd)) h .un
  rw [u_law_same]
  unfold g_law_same
  have r := rg1_len ds.length hl
  simp [r, e]
theorem same_tup (n : Nat) (ds : List D) (hl : ds.length ≤ 1000) (h : ∀ d ∈ ds, h_law_same n [d, d] = .ok (.bool true)) : h_law_same (n + 1) [.tuple ds, .tuple ds] = .ok (.bool true) := by
  obtain ⟨s', e⟩ := same_loop n (.tuple ds) ds (fun i d hd => ix_tup (by omega) (by simpa using hd)) h .un
  rw [u_law_same]
  unfold g_law_same
  have r := rg1_len ds.length hl
  simp [r, e]
theorem same_refl : ∀ (n : Nat) (d : D), PlN n d → h_law_same (n + 1) [d, d] = .ok (.bool true)
  | n, .none, _ => same_none n
  | n, .bool b, _ => same_bool n b
  | n, .int i, _ => same_int n i
  | 0, .list _, h => by simp [PlN] at h
  | 0, .tuple _, h => by simp [PlN] at h
  | 0, .str _, h => by simp [PlN] at h
  | 0, .dict _, h => by simp [PlN] at h
  | n + 1, .list ds, h => by
    simp only [PlN] at h
    exact same_list _ ds h.1 fun d hd => same_refl n d (h.2 d hd)
  | n + 1, .tuple ds, h => by
    simp only [PlN] at h
    exact same_tup _ ds h.1 fun d hd => same_refl n d (h.2 d hd)
  | n + 1, .str _, h => by simp [PlN] at h
  | n + 1, .dict _, h => by simp [PlN] at h
theorem same_pl {d : D} (n : Nat) (h : PlN n d) (hn : n ≤ 8 := by decide) : f_law_same [d, d] = .ok (.bool true) := same_refl 8 d (h.le hn)
theorem pl_pd (x : Per) : PlN 1 (pd x) := by simp [pd, PlN]
theorem pl_ints (o : List Int) (h : o.length ≤ 1000) : PlN 1 (intsL o) := by
  simp only [PlN, intsL, List.length_map]
  refine ⟨h, fun d hd => ?_⟩
  obtain ⟨x, _, rfl⟩ := List.mem_map.mp hd
  simp [PlN]
theorem pl_rows (l : List Per) (h : l.length ≤ 1000) : PlN 2 (rowsD l) := by
  simp only [PlN, rowsD, List.length_map]
  refine ⟨h, fun d hd => ?_⟩
  obtain ⟨x, _, rfl⟩ := List.mem_map.mp hd
  exact pl_pd x
theorem same_rows (l : List Per) (hl : l.length ≤ 1000) : f_law_same [rowsD l, rowsD l] = .ok (.bool true) := same_pl 2 (pl_rows l hl)
theorem same_ints (l : List Int) (hl : l.length ≤ 1000) : f_law_same [intsL l, intsL l] = .ok (.bool true) := same_pl 1 (pl_ints l hl)
theorem same_i (i : Int) : f_law_same [.int i, .int i] = .ok (.bool true) := same_int 8 i
theorem same_n : f_law_same [.none, .none] = .ok (.bool true) := same_none 8
/-- the checks let good periods pass -/
theorem check_loop (R : D) : ∀ (l : List Per) (k : Nat) (s2 s3 s4 s5 : Sl), Gds l → ∃ t2 t3 t4 t5, loopS (tgT [(tgN 2), (tgT [(tgN 3), (tgN 4), (tgN 5)])])
  b_check_periods_1 (enumD k (l.map pd)) [.va R, .va .none, s2, s3, s4, s5] = .nx [.va R, .va .none, t2, t3, t4, t5]
  | [], k, s2, s3, s4, s5, _ => ⟨s2, s3, s4, s5, rfl⟩
  | x :: l, k, s2, s3, s4, s5, h => by
    have hx := h x List.mem_cons_self
    obtain ⟨t2, t3, t4, t5, e⟩ := check_loop R l (k + 1) (.va (.int k)) (.va (.int x.1)) (.va (.int x.2.1)) (.va (.int x.2.2)) h.tail
    refine ⟨t2, t3, t4, t5, ?_⟩
    rw [← e]
    have a1 : ¬ x.1 < 0 := by have := hx.d0; omega
    have a2 : ¬ x.2.1 < 0 := by have := hx.s0; omega
    have a3 : ¬ x.2.2 < 1 := by have := hx.h1; omega
    simp [loopS, enumD, b_check_periods_1, pd, a1, a2, a3]
theorem check_ok (l : List Per) (h : Gds l) : f_check_periods [rowsD l, .none] = .ok .none := by
  rw [u_check_periods]
  unfold g_check_periods
  obtain ⟨t2, t3, t4, t5, e⟩ := check_loop (rowsD l) l 0 .un .un .un .un h
  simp [e]
theorem if_int (p : Prop) [Decidable p] (a b : Int) : (if p then PyData.int a else PyData.int b) = PyData.int (if p then a else b) := by split <;> rfl
theorem if_rows (p : Prop) [Decidable p] (a b : List Per) : (if p then rowsD a else rowsD b) = rowsD (if p then a else b) := by split <;> rfl
@[simp] theorem len_rows (l : List Per) : sLen (rowsD l) = .ok (.int (l.length : Int)) := by simp [rowsD, -rows_f]
@[simp] theorem lst_rows (l : List Per) : sList (rowsD l) = .ok (rowsD l) := by simp [rowsD, -rows_f]
theorem row_at {l : List Per} {k : Nat} {x : Per} (h : l[k]? = some x) : sIx (rowsD l) (.int (k : Int)) = .ok (pd x) := ix_map h
theorem row_atI {l : List Per} {k : Int} {x : Per} (h0 : 0 ≤ k) (h : l[k.toNat]? = some x) : sIx (rowsD l) (.int k) = .ok (pd x) := ix_mapI h0 h
@[simp] theorem pd_0 (x : Per) : sIx (pd x) (.int 0) = .ok (.int x.1) := id rfl
@[simp] theorem pd_1 (x : Per) : sIx (pd x) (.int 1) = .ok (.int x.2.1) := id rfl
@[simp] theorem pd_2 (x : Per) : sIx (pd x) (.int 2) = .ok (.int x.2.2) := id rfl
/-- the sum of the demands -/
def dsum (l : List Per) : Int := (l.map (·.1)).sum
@[simp] theorem dsum_nil : dsum [] = 0 := id rfl
@[simp] theorem dsum_cons (x : Per) (l : List Per) : dsum (x :: l) = x.1 + dsum l := by
  show (x.1 :: l.map (·.1)).sum = _
  rw [List.sum_cons]
  rfl
theorem dsum_app (l m : List Per) : dsum (l ++ m) = dsum l + dsum m := by
  induction l with
  | nil => simp
  | cons x l ih => rw [List.cons_append, dsum_cons, dsum_cons, ih]; omega
theorem dsum_nn : ∀ (l : List Per), Gds l → 0 ≤ dsum l
  | [], _ => Int.le_refl _
  | x :: l, h => by
    have := dsum_nn l h.tail
    have h1 := h.head.d0
    rw [dsum_cons]
    omega
theorem dsum_take : ∀ (l : List Per) (k : Nat), Gds l → dsum (l.take k) ≤ dsum l
  | [], k, _ => by rw [List.take_nil]; exact Int.le_refl _
  | x :: l, 0, h => dsum_nn _ h
  | x :: l, k + 1, h => by
    rw [List.take_succ_cons, dsum_cons, dsum_cons]
    have := dsum_take l k h.tail
    omega
theorem dsum_big : ∀ (l : List Per), Gds l → dsum l ≤ (l.length : Int) * (1000000 * BC)
  | [], _ => by simp
  | x :: l, h => by
    have := dsum_big l h.tail
    have hx := h.head.db
    rw [dsum_cons, List.length_cons, Int.natCast_add, Int.add_mul]
    omega
theorem dsum_le (l : List Per) (h : Gds l) (n : Nat) (hl : l.length ≤ n) : dsum l ≤ n * (1000000 * BC) := by
  have h1 := dsum_big l h
  have h2 : (l.length : Int) * (1000000 * BC) ≤ n * (1000000 * BC) := Int.mul_le_mul_of_nonneg_right (by omega) (by have := BB_pos; have := BC_big; omega)
  omega
theorem dsum_sm : ∀ (l : List Per), Sml l → dsum l ≤ (l.length : Int) * BB
  | [], _ => by simp
  | x :: l, h => by
    have := dsum_sm l h.tail
    have hx := (h x List.mem_cons_self).1
    rw [dsum_cons, List.length_cons, Int.natCast_add, Int.add_mul]
    omega
theorem mul_BB {a b : Nat} (h : a ≤ b) : (a : Int) * BB ≤ b * BB := Int.mul_le_mul_of_nonneg_right (by omega) (by have := BB_pos; omega)
theorem dsum_succ (l : List Per) (k : Nat) (x : Per) (h : l[k]? = some x) : dsum (l.take (k + 1)) = dsum (l.take k) + x.1 := by
  obtain ⟨hk, rfl⟩ := List.getElem?_eq_some_iff.mp h
  rw [List.take_succ_eq_append_getElem hk, dsum_app]
  simp
theorem sum_ints (o : List Int) : sSum (intsL o) = .ok (.int o.sum) := by
  show (match intsD (o.map PyData.int) with | some ns => Rs.ok (PyData.int ns.sum) | none => Rs.stuck) = _
  rw [intsD_map]
theorem sum_mapI {α : Type} (f : α → Int) (l : List α) : sSum (.list (l.map fun x => PyData.int (f x))) = .ok (.int (l.map f).sum) := by
  have : (l.map fun x => PyData.int (f x)) = (l.map f).map PyData.int := by rw [List.map_map]; rfl
  rw [this]
  exact sum_ints _
theorem sum_dem (l : List Per) : sSum (.list (l.map fun x => PyData.int x.1)) = .ok (.int (dsum l)) := sum_mapI (fun x : Per => x.1) l
/-- a comprehension over a typed list -/
theorem comp_list {α : Type} {vs : List Nat} {f : Rho → Rs (List D)} {tg : Tg} {e : Rho → Rs D} {ρ ρ0 : Rho} (p q : α → D) (l : List α) (hl : l.length ≤ 1000) (hf : f ρ = .ok (l.map p)) (hw : wipeR ρ vs = ρ0) (h : ∀ x ∈ l, ∃ ρ1, tg (p x) ρ0 = .ok ρ1 ∧ e ρ1 = .ok (q x)) : fComp vs f tg fYes e ρ = .ok (.list (l.map q)) := by
  unfold fComp
  rw [hf, Rs.bind_ok, if_pos (by rw [List.length_map]; exact le_size hl), hw, comp_mp p q l h]
theorem cut_take {α : Type} (p : α → D) (l : List α) (k : Nat) : cutD (l.map p) none (some (k : Int)) = (l.take k).map p := by
  unfold cutD
  rw [HT.sIx_none, HT.sIx_nat, List.drop_zero, Nat.sub_zero, List.map_take]
  by_cases c : k ≤ (l.map p).length
  · rw [Nat.min_eq_left c]
  · rw [Nat.min_eq_right (by omega), List.take_of_length_le (Nat.le_refl _), List.take_of_length_le (by omega)]
theorem cut_drop {α : Type} (p : α → D) (l : List α) (k : Nat) : cutD (l.map p) (some (k : Int)) none = (l.drop k).map p := by
  unfold cutD
  rw [HT.sIx_none, HT.sIx_nat, List.map_drop]
  by_cases c : k ≤ (l.map p).length
  · rw [Nat.min_eq_left c, List.take_of_length_le (by rw [List.length_drop]; omega)]
  · rw [Nat.min_eq_right (by omega), Nat.sub_self, List.take_zero, List.drop_eq_nil_of_le (by omega)]
@[simp] theorem ks_t0 (l : List Per) (k : Nat) : kSlice (rowsD l) none (some (k : Int)) = .ok (rowsD (l.take k)) := by
  show Rs.ok (PyData.list (cutD (l.map pd) none (some (k : Int)))) = _
  rw [cut_take]; rfl
@[simp] theorem ks_d0 (l : List Per) (k : Nat) : kSlice (rowsD l) (some (k : Int)) none = .ok (rowsD (l.drop k)) := by
  show Rs.ok (PyData.list (cutD (l.map pd) (some (k : Int)) none)) = _
  rw [cut_drop]; rfl
@[simp] theorem ks_t1 (l : List Int) (k : Nat) : kSlice (intsL l) none (some (k : Int)) = .ok (intsL (l.take k)) := by
  show Rs.ok (PyData.list (cutD (l.map PyData.int) none (some (k : Int)))) = _
  rw [cut_take]; rfl
@[simp] theorem ks_d1 (l : List Int) (k : Nat) : kSlice (intsL l) (some (k : Int)) none = .ok (intsL (l.drop k)) := by
  show Rs.ok (PyData.list (cutD (l.map PyData.int) (some (k : Int)) none)) = _
  rw [cut_drop]; rfl
theorem ks_t (l : List Per) {k : Int} (h : 0 ≤ k) : kSlice (rowsD l) none (some k) = .ok (rowsD (l.take k.toNat)) := by
  obtain ⟨n, rfl⟩ := Int.eq_ofNat_of_zero_le h
  simp
theorem ks_d (l : List Per) {k : Int} (h : 0 ≤ k) : kSlice (rowsD l) (some k) none = .ok (rowsD (l.drop k.toNat)) := by
  obtain ⟨n, rfl⟩ := Int.eq_ofNat_of_zero_le h
  simp
theorem ks_ti (l : List Int) {k : Int} (h : 0 ≤ k) : kSlice (intsL l) none (some k) = .ok (intsL (l.take k.toNat)) := by
  obtain ⟨n, rfl⟩ := Int.eq_ofNat_of_zero_le h
  simp
theorem ks_di (l : List Int) {k : Int} (h : 0 ≤ k) : kSlice (intsL l) (some k) none = .ok (intsL (l.drop k.toNat)) := by
  obtain ⟨n, rfl⟩ := Int.eq_ofNat_of_zero_le h
  simp
theorem slice_t {α : Type} (p : α → D) (l : List α) {f F : Rho → Rs D} {ρ : Rho} {k : Int} (hk : 0 ≤ k) (hf : f ρ = .ok (.list (l.map p))) (hF : F ρ = .ok (.int k)) : fSlice f (fPart none) (fPart (some F)) ρ = .ok (.list ((l.take k.toNat).map p)) := by
  have e1 : k = ((k.toNat : Nat) : Int) := by omega
  rw [q_fSlice, hf, Rs.bind_ok, q_fPart0, Rs.bind_ok, q_fPart1 hF, Rs.bind_ok]
  show Rs.ok (PyData.list (cutD (l.map p) none (some k))) = _
  rw [e1, cut_take, Int.toNat_natCast]
theorem slice_d {α : Type} (p : α → D) (l : List α) {f F : Rho → Rs D} {ρ : Rho} {k : Int} (hk : 0 ≤ k) (hf : f ρ = .ok (.list (l.map p))) (hF : F ρ = .ok (.int k)) : fSlice f (fPart (some F)) (fPart none) ρ = .ok (.list ((l.drop k.toNat).map p)) := by
  have e1 : k = ((k.toNat : Nat) : Int) := by omega
  rw [q_fSlice, hf, Rs.bind_ok, q_fPart1 hF, Rs.bind_ok, q_fPart0, Rs.bind_ok]
  show Rs.ok (PyData.list (cutD (l.map p) (some k) none)) = _
  rw [e1, cut_drop, Int.toNat_natCast]
end Lw

/-! the scripts' cap -/
namespace Lw
open PySem Ct L2
def capD : Option Int → D
  | none => .none
  | some c => .int c
theorem cap_is (ns : List Int) (sc : Int) (h0 : 0 ≤ sc) (h5 : sc ≤ 5) : ∃ c : Option Int, (∀ x, c = some x → 0 ≤ x ∧ x < 10 ^ 60) ∧ f_law_cap [scriptD ns, .int sc] = .ok (capD c) := by
  obtain ⟨n, n0, eN⟩ := number_is ns 1 (by omega) (by omega)
  rw [u_law_cap]
  unfold g_law_cap
  have m3 : sMod (.int n) (.int 3) = .ok (.int (n % 3)) := q_sMod (by decide)
  have d3 : sDiv (.int n) (.int 3) = .ok (.int (n / 3)) := dv_ok _ _ (by decide) (by unfold Sm; omega)
  by_cases z : n % 3 = 0
  · exact ⟨none, (fun x hx => nomatch hx), by simp [eN, m3, z, capD]⟩
  · have mx : ∃ t : Int, 0 < t ∧ t ≤ 10 ^ 60 ∧ (sc = 4 → t = 33) ∧ sIx (.list [.int 9, .int 45, .int 330, .int 1000000000, .int 33, .int 1000000000000000000000000000000000000000000000000000000000000]) (.int sc) = .ok (.int t) := by
      have : sc = 0 ∨ sc = 1 ∨ sc = 2 ∨ sc = 3 ∨ sc = 4 ∨ sc = 5 := by omega
      rcases this with rfl | rfl | rfl | rfl | rfl | rfl
      · exact ⟨9, by omega, by omega, by omega, rfl⟩
      · exact ⟨45, by omega, by omega, by omega, rfl⟩
      · exact ⟨330, by omega, by omega, by omega, rfl⟩
      · exact ⟨1000000000, by omega, by omega, by omega, rfl⟩
      · exact ⟨33, by omega, by omega, by omega, rfl⟩
      · exact ⟨1000000000000000000000000000000000000000000000000000000000000, by omega, by omega, by omega, rfl⟩
    obtain ⟨t, t0, t1, t4, ix⟩ := mx
    have mt : sMod (.int (n / 3)) (.int t) = .ok (.int (n / 3 % t)) := q_sMod t0
    have a0 := Int.emod_nonneg (n / 3) (show t ≠ 0 by omega)
    have a1 := Int.emod_lt_of_pos (n / 3) t0
    generalize n / 3 % t = v at *
    by_cases w : sc = 4
    · have t33 := t4 w
      subst w
      subst t33
      have mm : sMul (.int v) (.int 1000000000000000000000) = .ok (.int (v * 1000000000000000000000)) := mul_ok (a := 200) (b := 200) (by unfold Sm; omega) (by unfold Sm; omega)
      exact ⟨some (v * 1000000000000000000000), (fun x hx => by cases hx; omega), by simp [eN, m3, z, d3, mt, mm, capD]⟩
    · exact ⟨some v, (fun x hx => by cases hx; omega), by simp [eN, m3, z, d3, ix, mt, w, capD]⟩
end Lw

/-! least costs, from the front -/
namespace Lw
open PySem Ct L2
/-- what it costs to hold the demands of a piece, and e units more, from its first period on -/
def hc : List Per → Int → Int
  | [], _ => 0
  | x :: r, e => x.2.2 * (dsum r + e) + hc r e
def rt : List Per → Int
  | [] => 0
  | x :: r => x.2.2 + rt r
theorem hc_lin : ∀ (l : List Per) (e : Int), hc l e = hc l 0 + rt l * e
  | [], e => by simp [hc, rt]
  | x :: r, e => by
    have := hc_lin r e
    unfold hc rt
    rw [this]
    grind
theorem hc_snoc : ∀ (l : List Per) (p : Per) (e : Int), hc (l ++ [p]) e = hc l (p.1 + e) + p.2.2 * e
  | [], p, e => by simp [hc]
  | x :: r, p, e => by
    have := hc_snoc r p e
    rw [List.cons_append]
    unfold hc
    rw [this, dsum_app]
    simp only [dsum_cons, dsum_nil]
    grind
theorem hc_snoc0 (l : List Per) (p : Per) : hc (l ++ [p]) 0 = hc l 0 + rt l * p.1 := by
  rw [hc_snoc, hc_lin l (p.1 + 0)]
  simp
theorem rt_app : ∀ (l m : List Per), rt (l ++ m) = rt l + rt m
  | [], m => by simp [rt]
  | x :: l, m => by
    rw [List.cons_append, rt, rt, rt_app l m]
    omega
theorem rt_nn : ∀ (l : List Per), Gds l → 0 ≤ rt l
  | [], _ => Int.le_refl _
  | x :: l, h => by
    have := rt_nn l h.tail
    have := h.head.h1
    unfold rt
    omega
theorem rt_le (l : List Per) (h : Gds l) : rt l ≤ l.length * BB := by
  induction l with
  | nil => simp [rt]
  | cons x l ih =>
    have := ih h.tail
    have := h.head.hb
    rw [rt, List.length_cons, Int.natCast_add, Int.add_mul]
    omega
theorem hc_nn : ∀ (l : List Per) (e : Int), Gds l → 0 ≤ e → 0 ≤ hc l e
  | [], _, _, _ => Int.le_refl _
  | x :: l, e, h, he => by
    have := hc_nn l e h.tail he
    have h1 := h.head.h1
    have h2 := dsum_nn l h.tail
    have := Int.mul_nonneg (show 0 ≤ x.2.2 by omega) (show 0 ≤ dsum l + e by omega)
    unfold hc
    omega
abbrev P0 : Per := (0, 0, 0)
def setup (l : List Per) (j : Nat) : Int := (l.getD j P0).2.1
def dem (l : List Per) (j : Nat) : Int := (l.getD j P0).1
/-- the piece from j up to n -/
def seg (l : List Per) (j n : Nat) : List Per := (l.take n).drop j
def costs (l : List Per) : Nat → List Int
  | 0 => [0]
  | n + 1 => costs l n ++ [if dem l n = 0 then (costs l n).getD n 0 else lmin ((List.range (n + 1)).map fun j => (costs l n).getD j 0 + setup l j + hc (seg l j (n + 1)) 0)]
/-- the least cost of the first n periods -/
def C (l : List Per) (n : Nat) : Int := (costs l n).getD n 0
/-- the least cost of the first n periods where the last order stands at j and e units are left -/
def V (l : List Per) (n j : Nat) (e : Int) : Int := C l j + setup l j + hc (seg l j n) e
theorem costs_len (l : List Per) : ∀ n, (costs l n).length = n + 1
  | 0 => rfl
  | n + 1 => by rw [costs, List.length_append, costs_len l n]; rfl
theorem costs_at (l : List Per) : ∀ (n j : Nat), j ≤ n → (costs l n)[j]? = some (C l j)
  | 0, 0, _ => rfl
  | n + 1, j, h => by
    by_cases e : j = n + 1
    · subst e
      unfold C
      rw [List.getD_eq_getElem?_getD]
      have : n + 1 < (costs l (n + 1)).length := by rw [costs_len]; omega
      rw [List.getElem?_eq_getElem this]
      rfl
    · have h2 := costs_at l n j (by omega)
      rw [costs, List.getElem?_append_left (by rw [costs_len]; omega)]
      exact h2
theorem costs_getD (l : List Per) (n j : Nat) (h : j ≤ n) : (costs l n).getD j 0 = C l j := by
  rw [List.getD_eq_getElem?_getD, costs_at l n j h]
  rfl
theorem costs_map (l : List Per) (n : Nat) : costs l n = (List.range (n + 1)).map (C l) := by
  refine List.ext_getElem? fun j => ?_
  by_cases h : j ≤ n
  · rw [costs_at l n j h, List.getElem?_map, List.getElem?_range (by omega)]
    rfl
  · rw [List.getElem?_eq_none (by rw [costs_len]; omega), List.getElem?_eq_none (by simp; omega)]
theorem C_zero (l : List Per) : C l 0 = 0 := rfl
theorem C_succ (l : List Per) (n : Nat) : C l (n + 1) = if dem l n = 0 then C l n else lmin ((List.range (n + 1)).map fun j => V l (n + 1) j 0) := by
  have e : (fun j => (costs l n).getD j 0 + setup l j + hc (seg l j (n + 1)) 0) = (fun j => (costs l n).getD j 0 + setup l j + hc (seg l j (n + 1)) 0) := rfl
  have : C l (n + 1) = (costs l n ++ [if dem l n = 0 then (costs l n).getD n 0 else lmin ((List.range (n + 1)).map fun j => (costs l n).getD j 0 + setup l j + hc (seg l j (n + 1)) 0)]).getD (n + 1) 0 := rfl
  rw [this, List.getD_eq_getElem?_getD, List.getElem?_append_right (by rw [costs_len]; omega), costs_len, Nat.sub_self]
  show (if dem l n = 0 then (costs l n).getD n 0 else _) = _
  rw [costs_getD l n n (Nat.le_refl _)]
  have : ((List.range (n + 1)).map fun j => (costs l n).getD j 0 + setup l j + hc (seg l j (n + 1)) 0) = (List.range (n + 1)).map fun j => V l (n + 1) j 0 := by
    refine List.map_congr_left fun j hj => ?_
    rw [costs_getD l n j (by have := List.mem_range.mp hj; omega)]
    rfl
  rw [this]
theorem C_z {l : List Per} {n : Nat} (h : dem l n = 0) : C l (n + 1) = C l n := by rw [C_succ, if_pos h]
theorem C_p {l : List Per} {n : Nat} (h : dem l n ≠ 0) : C l (n + 1) = lmin ((List.range (n + 1)).map fun j => V l (n + 1) j 0) := by rw [C_succ, if_neg h]
theorem lmin_map_le {n j : Nat} {f : Nat → Int} (h : j < n) : lmin ((List.range n).map f) ≤ f j := lmin_le (List.mem_map.mpr ⟨j, List.mem_range.mpr h, rfl⟩)
theorem lmin_map_at {n : Nat} {f : Nat → Int} (h : 0 < n) : ∃ j, j < n ∧ lmin ((List.range n).map f) = f j := by
  have hn : (List.range n).map f ≠ [] := by
    intro z
    have := congrArg List.length z
    simp at this
    omega
  obtain ⟨j, h1, h2⟩ := List.mem_map.mp (lmin_mem hn)
  exact ⟨j, List.mem_range.mp h1, h2.symm⟩
theorem seg_at {l : List Per} {k n : Nat} (h : k < n) (hn : n ≤ l.length) : seg l k n = l.getD k P0 :: seg l (k + 1) n := by
  unfold seg
  rw [List.drop_eq_getElem_cons (by rw [List.length_take]; omega)]
  congr 1
  rw [List.getElem_take, List.getD_eq_getElem?_getD, List.getElem?_eq_getElem (by omega)]
  rfl
theorem seg_nil {l : List Per} {n : Nat} : seg l n n = [] := by
  unfold seg
  exact List.drop_eq_nil_of_le (by rw [List.length_take]; omega)
theorem seg_snoc {l : List Per} {k n : Nat} (h : k ≤ n) (hn : n < l.length) : seg l k (n + 1) = seg l k n ++ [l.getD n P0] := by
  unfold seg
  rw [List.take_succ_eq_append_getElem hn, List.drop_append_of_le_length (by rw [List.length_take]; omega)]
  congr 2
  rw [List.getD_eq_getElem?_getD, List.getElem?_eq_getElem hn]
  rfl
theorem seg_all {l : List Per} {k : Nat} : seg l k l.length = l.drop k := by
  unfold seg
  rw [List.take_length]
theorem Gds.seg {l : List Per} (h : Gds l) (k n : Nat) : Gds (seg l k n) := (h.take n).drop k
theorem getD_at {l : List Per} {k : Nat} {x : Per} (h : l[k]? = some x) : l.getD k P0 = x := by
  rw [List.getD_eq_getElem?_getD, h]
  rfl
theorem at_getD {l : List Per} {k : Nat} (h : k < l.length) : l[k]? = some (l.getD k P0) := by
  rw [List.getD_eq_getElem?_getD, List.getElem?_eq_getElem h]
  rfl
/-- one period more: its demand is held from the start on -/
theorem V_snoc {l : List Per} {k n : Nat} (h : k ≤ n) (hn : n < l.length) : V l (n + 1) k 0 = V l n k 0 + rt (seg l k n) * dem l n := by
  unfold V
  rw [seg_snoc h hn, hc_snoc0]
  unfold dem
  omega
theorem V_self (l : List Per) (k : Nat) : V l k k 0 = C l k + setup l k := by
  unfold V
  rw [seg_nil]
  simp [hc]
theorem V_lin (l : List Per) (n k : Nat) (e : Int) : V l n k e = V l n k 0 + rt (seg l k n) * e := by
  unfold V
  rw [hc_lin]
  omega
theorem setup_nn {l : List Per} (h : Gds l) (k : Nat) : 0 ≤ setup l k := by
  unfold setup
  by_cases hk : k < l.length
  · exact (h.at (at_getD hk)).s0
  · rw [List.getD_eq_getElem?_getD, List.getElem?_eq_none (by omega)]
    exact Int.le_refl 0
theorem dem_nn {l : List Per} (h : Gds l) (k : Nat) : 0 ≤ dem l k := by
  unfold dem
  by_cases hk : k < l.length
  · exact (h.at (at_getD hk)).d0
  · rw [List.getD_eq_getElem?_getD, List.getElem?_eq_none (by omega)]
    exact Int.le_refl 0
/-- no start is better -/
theorem C_le {l : List Per} (hg : Gds l) : ∀ (n j : Nat), n ≤ l.length → j < n → C l n ≤ V l n j 0
  | 0, j, _, h => by omega
  | n + 1, j, hn, h => by
    by_cases hd : dem l n = 0
    · rw [C_z hd]
      by_cases e : j = n
      · subst e
        rw [V_snoc (Nat.le_refl _) (by omega), V_self, hd]
        have := setup_nn hg j
        omega
      · rw [V_snoc (by omega) (by omega), hd]
        have := C_le hg n j (by omega) (by omega)
        omega
    · rw [C_p hd]
      exact lmin_map_le h
theorem C_at {l : List Per} {n : Nat} (hd : dem l n ≠ 0) : ∃ j, j ≤ n ∧ C l (n + 1) = V l (n + 1) j 0 := by
  rw [C_p hd]
  obtain ⟨j, h1, h2⟩ := lmin_map_at (f := fun j => V l (n + 1) j 0) (show 0 < n + 1 by omega)
  exact ⟨j, by omega, h2⟩
theorem C_nn {l : List Per} (hg : Gds l) : ∀ (n : Nat), n ≤ l.length → 0 ≤ C l n := by
  intro n
  induction n using Nat.strongRecOn with
  | ind n ih =>
    intro hn
    cases n with
    | zero => exact Int.le_refl _
    | succ n =>
      by_cases hd : dem l n = 0
      · rw [C_z hd]
        exact ih n (by omega) (by omega)
      · obtain ⟨j, h1, h2⟩ := C_at hd
        rw [h2]
        unfold V
        have := ih j (by omega) (by omega)
        have := setup_nn hg j
        have := hc_nn (seg l j (n + 1)) 0 (hg.seg _ _) (Int.le_refl _)
        omega
theorem V_nn {l : List Per} (hg : Gds l) {n j : Nat} {e : Int} (hn : n ≤ l.length) (hj : j < n) (he : 0 ≤ e) : 0 ≤ V l n j e := by
  unfold V
  have := C_nn hg j (by omega)
  have := setup_nn hg j
  have := hc_nn (seg l j n) e (hg.seg _ _) he
  omega
/-- only the first periods count -/
theorem seg_app {l m : List Per} {k n : Nat} (h : n ≤ l.length) : seg (l ++ m) k n = seg l k n := by
  unfold seg
  rw [List.take_append_of_le_length h]
theorem getD_app {l m : List Per} {k : Nat} (h : k < l.length) : (l ++ m).getD k P0 = l.getD k P0 := by
  rw [List.getD_eq_getElem?_getD, List.getD_eq_getElem?_getD, List.getElem?_append_left h]
theorem C_app {l m : List Per} : ∀ (n : Nat), n ≤ l.length → C (l ++ m) n = C l n := by
  intro n
  induction n using Nat.strongRecOn with
  | ind n ih =>
    intro hn
    cases n with
    | zero => rfl
    | succ n =>
      have e1 : dem (l ++ m) n = dem l n := by unfold dem; rw [getD_app (by omega)]
      have e2 : ((List.range (n + 1)).map fun j => V (l ++ m) (n + 1) j 0) = (List.range (n + 1)).map fun j => V l (n + 1) j 0 := by
        refine List.map_congr_left fun j hj => ?_
        have hj := List.mem_range.mp hj
        unfold V setup
        rw [ih j hj (by omega), getD_app (by omega), seg_app (by omega)]
      rw [C_succ, C_succ, e1, e2, ih n (by omega) (by omega)]
theorem V_app {l m : List Per} {n j : Nat} (hn : n ≤ l.length) (hj : j < n) (e : Int) : V (l ++ m) n j e = V l n j e := by
  unfold V setup
  rw [C_app j (by omega), getD_app (by omega), seg_app (by omega)]
theorem C_take {l : List Per} {m n : Nat} (h : n ≤ m) (hm : m ≤ l.length) : C (l.take m) n = C l n := by
  have := C_app (l := l.take m) (m := l.drop m) n (by rw [List.length_take]; omega)
  rwa [List.take_append_drop, eq_comm] at this
/-- the least cost for the ending stock e -/
def LC (l : List Per) (e : Int) : Int := if e = 0 then C l l.length else lmin ((List.range l.length).map fun j => V l l.length j e)
theorem LC_zero (l : List Per) : LC l 0 = C l l.length := by simp [LC]
theorem LC_pos {l : List Per} {e : Int} (h : e ≠ 0) : LC l e = lmin ((List.range l.length).map fun j => V l l.length j e) := by simp [LC, h]
theorem LC_le {l : List Per} (hg : Gds l) {e : Int} {j : Nat} (h : j < l.length) : LC l e ≤ V l l.length j e := by
  by_cases he : e = 0
  · subst he
    rw [LC_zero]
    exact C_le hg _ _ (Nat.le_refl _) h
  · rw [LC_pos he]
    exact lmin_map_le h
theorem LC_at {l : List Per} {e : Int} (h : 0 < l.length) (he : e ≠ 0) : ∃ j, j < l.length ∧ LC l e = V l l.length j e := by
  rw [LC_pos he]
  exact lmin_map_at h
/-- one period more, dear enough: its demand is what must be left -/
theorem C_dear {l : List Per} (hg : Gds l) {e S h : Int} (he : 0 < e) (hl : 0 < l.length) (hS : ∃ j, j < l.length ∧ V l l.length j e ≤ S) : C (l ++ [(e, S, h)]) (l.length + 1) = LC l e := by
  have hd : dem (l ++ [(e, S, h)]) l.length ≠ 0 := by
    unfold dem
    rw [getD_at (x := (e, S, h)) (by rw [List.getElem?_append_right (Nat.le_refl _), Nat.sub_self]; rfl)]
    show e ≠ 0
    omega
  have hv : ∀ j, j < l.length → V (l ++ [(e, S, h)]) (l.length + 1) j 0 = V l l.length j e := by
    intro j hj
    unfold V setup
    rw [C_app j (by omega), getD_app hj]
    have : seg (l ++ [(e, S, h)]) j (l.length + 1) = seg l j l.length ++ [(e, S, h)] := by
      unfold seg
      rw [List.take_length, List.take_of_length_le (by simp), List.drop_append_of_le_length (by omega)]
    rw [this, hc_snoc]
    simp
  have hlast : V (l ++ [(e, S, h)]) (l.length + 1) l.length 0 = C l l.length + S := by
    unfold V setup
    rw [C_app _ (Nat.le_refl _), getD_at (x := (e, S, h)) (by rw [List.getElem?_append_right (Nat.le_refl _), Nat.sub_self]; rfl)]
    have : seg (l ++ [(e, S, h)]) l.length (l.length + 1) = [(e, S, h)] := by
      unfold seg
      rw [List.take_of_length_le (by simp), List.drop_append_of_le_length (Nat.le_refl _), List.drop_length]
      rfl
    rw [this]
    simp [hc]
  rw [C_p hd]
  apply Int.le_antisymm
  · obtain ⟨j, h1, h2⟩ := LC_at hl (show e ≠ 0 by omega)
    rw [h2, ← hv j h1]
    exact lmin_map_le (by omega)
  · obtain ⟨j, h1, h2⟩ := lmin_map_at (f := fun j => V (l ++ [(e, S, h)]) (l.length + 1) j 0) (show 0 < l.length + 1 by omega)
    rw [h2]
    by_cases hj : j < l.length
    · rw [hv j hj]
      exact LC_le hg hj
    · have : j = l.length := by omega
      subst this
      rw [hlast]
      obtain ⟨k, k1, k2⟩ := hS
      have := LC_le hg (e := e) k1
      have := C_nn hg l.length (Nat.le_refl _)
      omega
end Lw

/-! the program's least costs -/
namespace Lw
open PySem Ct L2
theorem range_set {α : Type} (n k : Nat) (f : Nat → α) (v : α) : ((List.range n).map f).set k v = (List.range n).map fun j => if j = k then v else f j := by
  refine List.ext_getElem? fun j => ?_
  rw [List.getElem?_set, List.getElem?_map, List.getElem?_map]
  by_cases h : j < n
  · rw [List.getElem?_range h]
    by_cases e : k = j
    · subst e
      simp [h]
    · have e2 : ¬ j = k := fun z => e z.symm
      simp [e, e2]
  · rw [List.getElem?_eq_none (by simp; omega)]
    simp
    intro e1
    omega
theorem rep_int (n : Nat) (i : Int) (hn : n ≤ 1000) : sRep (.list [.int i]) (.int (n : Int)) = .ok (.list (List.replicate n (.int i))) := by
  have hz := le_size hn
  unfold sRep
  dsimp only
  rw [if_pos ⟨by omega, by omega, by simp; exact hz⟩]
  simp
def lastV (l : List Per) (cs : List Int) (n : Nat) (e : Int) (j : Nat) : Int := cs.getD j 0 + setup l j + hc (seg l j n) e
def lastR (l : List Per) (cs : List Int) (n : Nat) (e : Int) (k : Nat) : List Int := (List.range n).map fun j => if j < k then 0 else lastV l cs n e j
theorem last_loop (l : List Per) (cs : List Int) (n : Nat) (e : Int) (hg : Gds l) (hn : n ≤ l.length) (hc1 : n ≤ cs.length) (hl : l.length ≤ 500) (he : 0 ≤ e) (he2 : e ≤ 1000000 * BC) : ∀ (k : Nat) (s7 s8 s9 s10 : Sl), k ≤ n → ∃ t5 t6 t7 t8 t9 t10, loopS (tgN 7) b_last_costs_1 ((List.range k).map fun k : Nat => PyData.int (k : Int)).reverse [.va (rowsD l), .va (intsL cs), .va (.int (n : Int)), .va (.int e), .ow ((lastR l cs n e k).map PyData.int), .va (.int (dsum (seg l k n) + e)), .va (.int (hc (seg l k n) e)), s7, s8, s9, s10] = .nx [.va (rowsD l), .va (intsL cs), .va (.int (n : Int)), .va (.int e), .ow ((lastR l cs n e 0).map PyData.int), t5, t6, t7, t8, t9, t10]
  | 0, s7, s8, s9, s10, _ => ⟨_, _, s7, s8, s9, s10, by simp [loopS]; exact ⟨rfl, rfl⟩⟩
  | k + 1, s7, s8, s9, s10, hk => by
    have x1 := at_getD (l := l) (k := k) (by omega)
    have sg := seg_at (l := l) (k := k) (n := n) (by omega) hn
    have hx := hg.at x1
    have rx := row_at x1
    have c1 : cs[k]? = some (cs.getD k 0) := by rw [List.getD_eq_getElem?_getD, List.getElem?_eq_getElem (by omega)]; rfl
    have rc : sIx (intsL cs) (.int (k : Int)) = .ok (.int (cs.getD k 0)) := ix_map c1
    have b0 := dsum_le (seg l (k + 1) n) (hg.seg _ _) 500 (by unfold seg; simp; omega)
    have b1 := dsum_nn (seg l (k + 1) n) (hg.seg _ _)
    have b2 := hx.hb
    have b3 := hx.h1
    have b4 := BC_big
    have b5 := BB_pos
    obtain ⟨t5, t6, t7, t8, t9, t10, ee⟩ := last_loop l cs n e hg hn hc1 hl he he2 k (.va (.int k)) (.va (.int (l.getD k P0).1)) (.va (.int (l.getD k P0).2.1)) (.va (.int (l.getD k P0).2.2)) (by omega)
    refine ⟨t5, t6, t7, t8, t9, t10, ?_⟩
    rw [← ee, List.range_succ, List.map_append, List.map_singleton, List.reverse_append, List.reverse_singleton]
    have il : ixN ((lastR l cs n e (k + 1)).map PyData.int).length (k : Int) = some k := by
      rw [ixN_in (by omega) (by simp [lastR]; omega)]
      simp
    have st : ((lastR l cs n e (k + 1)).map PyData.int).set k (.int (lastV l cs n e k)) = (lastR l cs n e k).map PyData.int := by
      unfold lastR
      rw [List.map_map, List.map_map, range_set]
      refine List.map_congr_left fun j hj => ?_
      by_cases e1 : j = k
      · subst e1
        simp
      · by_cases e2 : j < k
        · have : j < k + 1 := by omega
          simp [e1, e2, this]
        · have : ¬ j < k + 1 := by omega
          simp [e1, e2, this]
    have hv : lastV l cs n e k = cs.getD k 0 + (l.getD k P0).2.1 + hc (seg l k n) e := rfl
    rw [hv, sg] at st
    rw [sg, dsum_cons]
    have hh : hc (l.getD k P0 :: seg l (k + 1) n) e = (l.getD k P0).2.2 * (dsum (seg l (k + 1) n) + e) + hc (seg l (k + 1) n) e := rfl
    rw [hh] at st ⊢
    generalize l.getD k P0 = x at *
    generalize cs.getD k 0 = ck at *
    have m := mulC (x := x.2.2) (y := dsum (seg l (k + 1) n) + e) (by omega) (by omega) (by omega) (by omega)
    generalize hS : seg l (k + 1) n = S at *
    generalize hA : (lastR l cs n e (k + 1)).map PyData.int = A at *
    have a1 : hc S e + x.2.2 * (dsum S + e) = x.2.2 * (dsum S + e) + hc S e := by omega
    have a2 : dsum S + e + x.1 = x.1 + dsum S + e := by omega
    simp only [List.cons_append, List.nil_append, loopS, q_tgN]
    have bd : b_last_costs_1 [.va (rowsD l), .va (intsL cs), .va (.int (n : Int)), .va (.int e), .ow A, .va (.int (dsum S + e)), .va (.int (hc S e)), .va (.int k), s8, s9, s10] = .nx [.va (rowsD l), .va (intsL cs), .va (.int (n : Int)), .va (.int e), .ow ((lastR l cs n e k).map PyData.int), .va (.int (x.1 + dsum S + e)), .va (.int (x.2.2 * (dsum S + e) + hc S e)), .va (.int k), .va (.int x.1), .va (.int x.2.1), .va (.int x.2.2)] := by
      simp [b_last_costs_1, rx, rc, pd, m, il, a1, a2, st]
    simp [bd]
theorem last_ok (l : List Per) (cs : List Int) (n : Nat) (e : Int) (hg : Gds l) (hn : n ≤ l.length) (hc1 : n ≤ cs.length) (hl : l.length ≤ 500) (he : 0 ≤ e) (he2 : e ≤ 1000000 * BC) : f_last_costs [rowsD l, intsL cs, .int (n : Int), .int e] = .ok (intsL ((List.range n).map (lastV l cs n e))) := by
  rw [u_last_costs]
  unfold g_last_costs
  obtain ⟨t5, t6, t7, t8, t9, t10, ee⟩ := last_loop l cs n e hg hn hc1 hl he he2 n .un .un .un .un (Nat.le_refl _)
  have r0 := rep_int n 0 (by omega)
  have e0 : (lastR l cs n e n).map PyData.int = List.replicate n (PyData.int 0) := by
    unfold lastR
    rw [List.map_map]
    have : ∀ j ∈ List.range n, (PyData.int ∘ fun j => if j < n then 0 else lastV l cs n e j) j = PyData.int 0 := by
      intro j hj
      have := List.mem_range.mp hj
      simp [this]
    rw [List.map_congr_left this]
    exact List.map_const' .. |>.trans (by simp)
  have e1 : lastR l cs n e 0 = (List.range n).map (lastV l cs n e) := by
    unfold lastR
    simp
  rw [e0, e1, seg_nil] at ee
  simp only [dsum_nil, hc, Int.zero_add] at ee
  generalize (List.range n).map (lastV l cs n e) = R at *
  have rr := rg1_map n (by omega)
  simp [r0, rr, ee]
theorem last_V (l : List Per) (m n : Nat) (e : Int) (h : n ≤ m + 1) : (List.range n).map (lastV l (costs l m) n e) = (List.range n).map fun j => V l n j e := by
  refine List.map_congr_left fun j hj => ?_
  have := List.mem_range.mp hj
  unfold lastV V
  rw [costs_getD l m j (by omega)]
theorem min_ints {o : List Int} (h : o ≠ []) : sMin (intsL o) = .ok (.int (lmin o)) := by
  cases o with
  | nil => exact absurd rfl h
  | cons n ns =>
    show (match intsD ((n :: ns).map PyData.int) with | some (n :: ns) => Rs.ok (PyData.int (lmin (n :: ns))) | _ => Rs.stuck) = _
    rw [intsD_map]
theorem range_ne {n : Nat} (f : Nat → Int) (h : 0 < n) : (List.range n).map f ≠ [] := by
  intro z
  have := congrArg List.length z
  simp at this
  omega
theorem least_loop (l : List Per) (hg : Gds l) (hl : l.length ≤ 500) : ∀ (m k : Nat) (s2 : Sl), k + m = l.length → ∃ t2, loopS (tgN 2) b_least_costs_1 ((List.range' (k + 1) m).map fun k : Nat => PyData.int (k : Int)) [.va (rowsD l), .ow ((costs l k).map PyData.int), s2] = .nx [.va (rowsD l), .ow ((costs l l.length).map PyData.int), t2]
  | 0, k, s2, hk => ⟨s2, by simp at hk; subst hk; simp [loopS]⟩
  | m + 1, k, s2, hk => by
    have x1 := at_getD (l := l) (k := k) (by omega)
    have rx := row_at x1
    obtain ⟨t2, ee⟩ := least_loop l hg hl m (k + 1) (.va (.int ((k : Int) + 1))) (by omega)
    refine ⟨t2, ?_⟩
    rw [← ee, List.range'_succ]
    have k1 : (k : Int) + 1 - 1 = (k : Int) := by omega
    have hz : (costs l k).length < sizeLine := lt_size (by rw [costs_len]; omega)
    have la := last_ok l (costs l k) (k + 1) 0 hg (by omega) (by rw [costs_len]; omega) hl (Int.le_refl _) (by have := BC_big; have := BB_pos; omega)
    rw [last_V l k (k + 1) 0 (Nat.le_refl _)] at la
    have mi := min_ints (range_ne (fun j => V l (k + 1) j 0) (show 0 < k + 1 by omega))
    have ne : sIx (intsL (costs l k)) (.int (-1)) = .ok (.int (C l k)) := by
      refine ix_neg (k := 1) (by omega) (by simp [costs_len]) ?_
      rw [List.length_map, costs_len, List.getElem?_map, Nat.add_sub_cancel, costs_at l k k (Nat.le_refl _)]
      rfl
    have bd : b_least_costs_1 [.va (rowsD l), .ow ((costs l k).map PyData.int), .va (.int ((k : Int) + 1))] = .nx [.va (rowsD l), .ow ((costs l (k + 1)).map PyData.int), .va (.int ((k : Int) + 1))] := by
      have cc : costs l (k + 1) = costs l k ++ [if dem l k = 0 then (costs l k).getD k 0 else lmin ((List.range (k + 1)).map fun j => (costs l k).getD j 0 + setup l j + hc (seg l j (k + 1)) 0)] := rfl
      have c2 : (List.range (k + 1)).map (fun j => (costs l k).getD j 0 + setup l j + hc (seg l j (k + 1)) 0) = (List.range (k + 1)).map fun j => V l (k + 1) j 0 := last_V l k (k + 1) 0 (Nat.le_refl _)
      rw [cc, c2, costs_getD l k k (Nat.le_refl _)]
      have hd : dem l k = (l.getD k P0).1 := rfl
      rw [hd]
      generalize l.getD k P0 = x at *
      generalize costs l k = cs at *
      generalize (List.range (k + 1)).map (fun j => V l (k + 1) j 0) = vs at *
      by_cases h0 : x.1 = 0
      · simp only [b_least_costs_1, k1]
        simp [k1, rx, h0, ne, hz]
      · simp only [b_least_costs_1, k1]
        have la : f_last_costs [rowsD l, intsL cs, .int ((k : Int) + 1), .int 0] = .ok (intsL vs) := la
        simp [k1, rx, h0, la, mi, hz]
    simp [loopS, bd]
theorem least_ok (l : List Per) (hg : Gds l) (hl : l.length ≤ 500) : f_least_costs [rowsD l] = .ok (intsL (costs l l.length)) := by
  rw [u_least_costs]
  unfold g_least_costs
  obtain ⟨t2, ee⟩ := least_loop l hg hl l.length 0 .un (by omega)
  have c := check_ok l hg
  have r : rg2 1 ((l.length : Int) + 1) = .ok ((List.range' 1 l.length).map fun k : Nat => PyData.int (k : Int)) := by
    have := rg2_len 1 (l.length + 1) (by omega) (by omega)
    rw [rng_map2 1 (l.length + 1) (by omega)] at this
    rw [show ((1 : Nat) : Int) = 1 from rfl, show ((l.length + 1 : Nat) : Int) = (l.length : Int) + 1 by omega] at this
    rw [this, List.range'_eq_map_range, List.map_map]
    rfl
  have c0 : (costs l 0).map PyData.int = [.int 0] := rfl
  rw [c0] at ee
  simp [c, r, ee]
theorem check_ending_ok (l : List Per) (e : Int) (hg : Gds l) (he : 0 ≤ e) (h : 0 < e → l ≠ []) : f_check_ending [rowsD l, .int e] = .ok .none := by
  rw [u_check_ending]
  unfold g_check_ending
  have c := check_ok l hg
  have h1 : ¬ e < 0 := by omega
  by_cases h0 : 0 < e
  · have : ¬ l = [] := h h0
    simp [c, h1, h0, this]
  · simp [c, h1, h0]
theorem neg1 {o : List Int} {n : Nat} {x : Int} (hl : o.length = n + 1) (h : o[n]? = some x) : sIx (intsL o) (.int (-1)) = .ok (.int x) := by
  refine ix_neg (k := 1) (by omega) (by simp [hl]) ?_
  rw [List.length_map, hl, List.getElem?_map, Nat.add_sub_cancel, h]
  rfl
theorem costs_last (l : List Per) : sIx (intsL (costs l l.length)) (.int (-1)) = .ok (.int (C l l.length)) := neg1 (costs_len l _) (costs_at l _ _ (Nat.le_refl _))
theorem least_cost_ok (l : List Per) (e : Int) (hg : Gds l) (hl : l.length ≤ 500) (he : 0 ≤ e) (he2 : e ≤ 1000000 * BC) (h : 0 < e → l ≠ []) : f_least_cost [rowsD l, .int e] = .ok (.int (LC l e)) := by
  rw [u_least_cost]
  unfold g_least_cost
  have c := check_ending_ok l e hg he h
  have lc := least_ok l hg hl
  have cl := costs_last l
  by_cases h0 : e = 0
  · subst h0
    rw [LC_zero]
    simp [c, lc, cl]
  · have la := last_ok l (costs l l.length) l.length e hg (Nat.le_refl _) (by rw [costs_len]; omega) hl he he2
    rw [last_V l l.length l.length e (by omega)] at la
    have hp : 0 < l.length := List.length_pos_iff.mpr (h (by omega))
    have mi := min_ints (range_ne (fun j => V l l.length j e) hp)
    rw [LC_pos h0]
    generalize (List.range l.length).map (fun j => V l l.length j e) = vs at *
    simp [c, lc, h0, la, mi]
end Lw

/-! the laws' own least costs -/
namespace Lw
open PySem Ct L2
def oD : Option Int → D
  | none => .none
  | some x => .int x
def arr (n : Nat) (f : Nat → Option Int) : List D := (List.range (n + 1)).map fun t => oD (f t)
@[simp] theorem arr_len (n : Nat) (f : Nat → Option Int) : (arr n f).length = n + 1 := by simp [arr]
theorem arr_get {n t : Nat} (f : Nat → Option Int) (h : t ≤ n) : (arr n f)[t]? = some (oD (f t)) := by
  unfold arr
  rw [List.getElem?_map, List.getElem?_range (by omega)]
  rfl
theorem arr_ix {n t : Nat} (f : Nat → Option Int) (h : t ≤ n) : sIx (.list (arr n f)) (.int (t : Int)) = .ok (oD (f t)) := ix_list (by omega) (by simpa using arr_get f h)
theorem arr_set (n t : Nat) (f : Nat → Option Int) (v : Int) : (arr n f).set t (.int v) = arr n fun u => if u = t then some v else f u := by
  unfold arr
  rw [range_set]
  refine List.map_congr_left fun j _ => ?_
  by_cases e : j = t <;> simp [e, oD]
theorem arr_congr {n : Nat} {f g : Nat → Option Int} (h : ∀ t, t ≤ n → f t = g t) : arr n f = arr n g := by
  unfold arr
  refine List.map_congr_left fun j hj => ?_
  rw [h j (by have := List.mem_range.mp hj; omega)]
theorem rg2_map (a n : Nat) (h : a ≤ n) (hn : n ≤ 100000) : rg2 (a : Int) (n : Int) = .ok ((List.range' a (n - a)).map fun k : Nat => PyData.int (k : Int)) := by
  rw [rg2_len a n (by omega) hn, rng_map2 a n h, List.range'_eq_map_range, List.map_map]
  rfl
/-- the least over the first k starts -/
def rawo (l : List Per) : Nat → Nat → Option Int
  | 0, _ => none
  | k + 1, t => some (match rawo l k t with
    | none => V l t k 0
    | some x => min x (V l t k 0))
theorem rawo_spec (l : List Per) (t : Nat) : ∀ k, ∃ m, rawo l (k + 1) t = some m ∧ (∀ j, j < k + 1 → m ≤ V l t j 0) ∧ ∃ j, j < k + 1 ∧ m = V l t j 0
  | 0 => ⟨V l t 0 0, rfl, fun j hj => by rw [show j = 0 by omega]; exact Int.le_refl _, 0, by omega, rfl⟩
  | k + 1 => by
    obtain ⟨m, h1, h2, j, h3, h4⟩ := rawo_spec l t k
    refine ⟨min m (V l t (k + 1) 0), by rw [rawo, h1], fun i hi => ?_, ?_⟩
    · by_cases e : i = k + 1
      · subst e; omega
      · have := h2 i (by omega); omega
    · by_cases c : m ≤ V l t (k + 1) 0
      · exact ⟨j, by omega, by omega⟩
      · exact ⟨k + 1, by omega, by omega⟩
theorem adj {l : List Per} (hg : Gds l) {k : Nat} (hk : k + 1 ≤ l.length) : ∃ m, rawo l (k + 1) (k + 1) = some m ∧ (if dem l k = 0 then min m (C l k) else m) = C l (k + 1) := by
  obtain ⟨m, h1, h2, j, h3, h4⟩ := rawo_spec l (k + 1) k
  refine ⟨m, h1, ?_⟩
  have := C_le hg (k + 1) j hk h3
  by_cases hd : dem l k = 0
  · rw [if_pos hd]
    have := C_z hd
    omega
  · rw [if_neg hd]
    obtain ⟨i, i1, i2⟩ := C_at hd
    have := h2 i (by omega)
    omega
/-- ahead of the k-th turn -/
def fK (l : List Per) (k t : Nat) : Option Int := if t < k then some (C l t) else if t = 0 then some 0 else rawo l k t
/-- in the k-th turn, with i periods done -/
def fI (l : List Per) (k i t : Nat) : Option Int := if t ≤ k then some (C l t) else if t ≤ k + i then rawo l (k + 1) t else rawo l k t
theorem inner_loop (l : List Per) (hg : Gds l) (hl : l.length ≤ 500) (k : Nat) (hk : k < l.length) : ∀ (m i : Nat) (s1 s6 : Sl), k + i + m = l.length → ∃ t4 t5 t6, loopS (tgN 6) b_law_costs_1 ((List.range' (k + i) m).map fun k : Nat => PyData.int (k : Int)) [.va (rowsD l), s1, .ow (arr l.length (fI l k i)), .va (.int k), .va (.int (V l (k + i) k 0)), .va (.int (rt (seg l k (k + i)))), s6] = .nx [.va (rowsD l), s1, .ow (arr l.length (fI l k (l.length - k))), .va (.int k), t4, t5, t6]
  | 0, i, s1, s6, h => ⟨_, _, s6, by rw [show l.length - k = i by omega]; simp [loopS]; exact ⟨rfl, rfl⟩⟩
  | m + 1, i, s1, s6, h => by
    have x1 := at_getD (l := l) (k := k + i) (by omega)
    have rx := row_at x1
    have hx := hg.at x1
    have b1 := rt_nn (seg l k (k + i)) (hg.seg _ _)
    have b2 := rt_le (seg l k (k + i)) (hg.seg _ _)
    have b3 : ((seg l k (k + i)).length : Int) * BB ≤ 500 * BB := Int.mul_le_mul_of_nonneg_right (by unfold seg; simp; omega) (by have := BB_pos; omega)
    have b4 := BC_big
    have b5 := BB_pos
    have b6 := hx.d0
    have b7 := hx.db
    have vs := V_snoc (l := l) (k := k) (n := k + i) (by omega) (by omega)
    have sg := seg_snoc (l := l) (k := k) (n := k + i) (by omega) (by omega)
    have hd : dem l (k + i) = (l.getD (k + i) Lw.P0).1 := rfl
    have rs : rt (seg l k (k + i + 1)) = rt (seg l k (k + i)) + (l.getD (k + i) Lw.P0).2.2 := by rw [sg, rt_app]; simp [rt]
    obtain ⟨t4, t5, t6, ee⟩ := inner_loop l hg hl k hk m (i + 1) s1 (.va (.int ((k : Int) + (i : Int)))) (by omega)
    refine ⟨t4, t5, t6, ?_⟩
    rw [← ee, List.range'_succ, show k + (i + 1) = k + i + 1 by omega, vs, rs, hd]
    have il : ixN (arr l.length (fI l k i)).length ((k : Int) + (i : Int) + 1) = some (k + i + 1) := by
      rw [ixN_in (by omega) (by rw [arr_len]; omega)]
      congr 1
    have ax := arr_ix (fI l k i) (show k + i + 1 ≤ l.length by omega)
    rw [show ((k + i + 1 : Nat) : Int) = (k : Int) + (i : Int) + 1 by omega] at ax
    rw [show ((k + i : Nat) : Int) = (k : Int) + (i : Int) by omega] at rx
    have fe : fI l k i (k + i + 1) = rawo l k (k + i + 1) := by
      unfold fI
      rw [if_neg (by omega), if_neg (by omega)]
    rw [fe] at ax
    have hV : V l (k + i + 1) k 0 = V l (k + i) k 0 + rt (seg l k (k + i)) * (l.getD (k + i) Lw.P0).1 := vs
    have st : ∀ w, rawo l (k + 1) (k + i + 1) = some w → (arr l.length (fI l k i)).set (k + i + 1) (.int w) = arr l.length (fI l k (i + 1)) := by
      intro w hw
      rw [arr_set]
      refine arr_congr fun t _ => ?_
      unfold fI
      by_cases e1 : t = k + i + 1
      · subst e1
        rw [if_pos rfl, if_neg (by omega), if_pos (by omega), hw]
      · rw [if_neg e1]
        by_cases e2 : t ≤ k
        · simp [e2]
        · by_cases e3 : t ≤ k + i
          · rw [if_neg e2, if_pos e3, if_neg e2, if_pos (by omega)]
          · rw [if_neg e2, if_neg e3, if_neg e2, if_neg (by omega)]
    have kp : ∀ w, rawo l (k + 1) (k + i + 1) = some w → rawo l k (k + i + 1) = some w → arr l.length (fI l k i) = arr l.length (fI l k (i + 1)) := by
      intro w h1 h2
      refine arr_congr fun t _ => ?_
      unfold fI
      by_cases e1 : t = k + i + 1
      · subst e1
        rw [if_neg (by omega), if_neg (by omega), if_neg (by omega), if_pos (by omega), h1, h2]
      · by_cases e2 : t ≤ k
        · simp [e2]
        · by_cases e3 : t ≤ k + i
          · rw [if_neg e2, if_pos e3, if_neg e2, if_pos (by omega)]
          · rw [if_neg e2, if_neg e3, if_neg e2, if_neg (by omega)]
    have rw2 : rawo l (k + 1) (k + i + 1) = some (match rawo l k (k + i + 1) with
      | none => V l (k + i + 1) k 0
      | some x => min x (V l (k + i + 1) k 0)) := rfl
    rw [hV] at rw2
    generalize hx0 : l.getD (k + i) Lw.P0 = x at *
    have mu := mulC (x := rt (seg l k (k + i))) (y := x.1) (by omega) (by omega) (by omega) (by omega)
    generalize rt (seg l k (k + i)) = r at *
    generalize V l (k + i) k 0 = v at *
    generalize hr : rawo l k (k + i + 1) = o at *
    cases o with
    | none =>
      have st := st _ rw2
      simp only [oD] at ax
      generalize arr l.length (fI l k i) = A at *
      simp [loopS, b_law_costs_1, rx, mu, ax, il, st]
    | some w =>
      simp only [oD] at ax
      by_cases c : v + r * x.1 < w
      · have st := st (v + r * x.1) (by rw [rw2]; show some (min w (v + r * x.1)) = _; congr 1; omega)
        generalize arr l.length (fI l k i) = A at *
        simp [loopS, b_law_costs_1, rx, mu, ax, il, st, c]
      · have kp := kp w (by rw [rw2]; show some (min w (v + r * x.1)) = _; congr 1; omega) rfl
        rw [← kp]
        generalize arr l.length (fI l k i) = A at *
        simp [loopS, b_law_costs_1, rx, mu, ax, il, c]
theorem outer_loop (l : List Per) (hg : Gds l) (hl : l.length ≤ 500) : ∀ (m k : Nat) (s1 s3 s4 s5 s6 : Sl), k + m = l.length → ∃ t3 t4 t5 t6, loopS (tgN 3) b_law_costs_2 ((List.range' k m).map fun k : Nat => PyData.int (k : Int)) [.va (rowsD l), s1, .ow (arr l.length (fK l k)), s3, s4, s5, s6] = .nx [.va (rowsD l), s1, .ow (arr l.length (fK l l.length)), t3, t4, t5, t6]
  | 0, k, s1, s3, s4, s5, s6, h => ⟨s3, s4, s5, s6, by simp at h; subst h; simp [loopS]⟩
  | m + 1, k, s1, s3, s4, s5, s6, h => by
    have x1 := at_getD (l := l) (k := k) (by omega)
    have rx := row_at x1
    obtain ⟨u4, u5, u6, ei⟩ := inner_loop l hg hl k (by omega) (l.length - k) 0 s1 s6 (by omega)
    obtain ⟨t3, t4, t5, t6, ee⟩ := outer_loop l hg hl m (k + 1) s1 (.va (.int k)) u4 u5 u6 (by omega)
    refine ⟨t3, t4, t5, t6, ?_⟩
    have fE : arr l.length (fI l k (l.length - k)) = arr l.length (fK l (k + 1)) := by
      refine arr_congr fun t ht => ?_
      unfold fI fK
      by_cases e1 : t ≤ k
      · rw [if_pos e1, if_pos (by omega)]
      · rw [if_neg e1, if_pos (by omega), if_neg (by omega), if_neg (by omega)]
    rw [fE] at ei
    rw [← ee, List.range'_succ]
    have rg := rg2_map k l.length (by omega) (by omega)
    rw [Nat.add_zero, V_self, seg_nil] at ei
    simp only [rt] at ei
    have ax := arr_ix (fI l k 0) (show k ≤ l.length by omega)
    have fe : fI l k 0 k = some (C l k) := by unfold fI; rw [if_pos (Nat.le_refl _)]
    rw [fe] at ax
    simp only [oD] at ax
    have hs : setup l k = (l.getD k Lw.P0).2.1 := rfl
    rw [hs] at ei
    -- the first step gives the settled costs
    have key : fIf (fAnd (toB (fBin sGt (fV 3) (fC (.int 0)))) (toB (fBin sEq (fBin sIx (fBin sIx (fV 0) (fBin sSub (fV 3) (fC (.int 1)))) (fC (.int 0))) (fC (.int 0)))))
        (fSet 2 (fCl (o2 sMin2) (aCons (fBin sIx (fB 2) (fV 3)) (aCons (fBin sIx (fB 2) (fBin sSub (fV 3) (fC (.int 1)))) aNil))) (fV 3))
        fSkip [.va (rowsD l), s1, .ow (arr l.length (fK l k)), .va (.int k), s4, s5, s6] = .nx [.va (rowsD l), s1, .ow (arr l.length (fI l k 0)), .va (.int k), s4, s5, s6] := by
      cases k with
      | zero =>
        have : arr l.length (fK l 0) = arr l.length (fI l 0 0) := by
          refine arr_congr fun t ht => ?_
          unfold fI fK
          by_cases e : t = 0
          · subst e; simp [C_zero]
          · simp [e, rawo]
        simp [this]
      | succ j =>
        obtain ⟨w, w1, w2⟩ := adj hg (k := j) (by omega)
        have y1 := at_getD (l := l) (k := j) (by omega)
        have ry := row_at y1
        have b1 := arr_ix (fK l (j + 1)) (show j + 1 ≤ l.length by omega)
        have b2 := arr_ix (fK l (j + 1)) (show j ≤ l.length by omega)
        have f1 : fK l (j + 1) (j + 1) = some w := by
          unfold fK
          rw [if_neg (by omega), if_neg (by omega), w1]
        have f2 : fK l (j + 1) j = some (C l j) := by
          unfold fK
          rw [if_pos (by omega)]
        rw [f1] at b1
        rw [f2] at b2
        simp only [oD] at b1 b2
        have il : ixN (arr l.length (fK l (j + 1))).length ((j : Int) + 1) = some (j + 1) := by
          rw [ixN_in (by omega) (by rw [arr_len]; omega)]
          congr 1
        have st : ∀ z, z = C l (j + 1) → (arr l.length (fK l (j + 1))).set (j + 1) (.int z) = arr l.length (fI l (j + 1) 0) := by
          intro z hz
          rw [arr_set]
          refine arr_congr fun t ht => ?_
          unfold fI fK
          by_cases e1 : t = j + 1
          · subst e1
            rw [if_pos rfl, if_pos (by omega), hz]
          · rw [if_neg e1]
            by_cases e2 : t < j + 1
            · rw [if_pos e2, if_pos (by omega)]
            · rw [if_neg e2, if_neg (by omega), if_neg (by omega), if_neg (by omega)]
        have hd : dem l j = (l.getD j Lw.P0).1 := rfl
        rw [hd] at w2
        rw [show ((j + 1 : Nat) : Int) = (j : Int) + 1 by omega] at *
        have jj : (j : Int) + 1 - 1 = (j : Int) := by omega
        have j0 : (0 : Int) < (j : Int) + 1 := by omega
        generalize l.getD j Lw.P0 = y at *
        by_cases c : y.1 = 0
        · rw [if_pos c] at w2
          have st := st _ w2
          generalize arr l.length (fK l (j + 1)) = A at *
          simp [jj, j0, ry, c, b1, b2, il, st]
        · rw [if_neg c] at w2
          have kp : arr l.length (fK l (j + 1)) = arr l.length (fI l (j + 1) 0) := by
            refine arr_congr fun t ht => ?_
            by_cases e1 : t = j + 1
            · subst e1
              rw [f1, w2]
              unfold fI
              rw [if_pos (Nat.le_refl _)]
            · unfold fI fK
              by_cases e2 : t < j + 1
              · rw [if_pos e2, if_pos (by omega)]
              · rw [if_neg e2, if_neg (by omega), if_neg (by omega), if_neg (by omega)]
          rw [← kp]
          generalize arr l.length (fK l (j + 1)) = A at *
          simp [jj, j0, ry, c]
    have bd : b_law_costs_2 [.va (rowsD l), s1, .ow (arr l.length (fK l k)), .va (.int k), s4, s5, s6] = .nx [.va (rowsD l), s1, .ow (arr l.length (fK l (k + 1))), .va (.int k), u4, u5, u6] := by
      unfold b_law_costs_2
      rw [seq_nx key]
      generalize l.getD k Lw.P0 = x at *
      generalize arr l.length (fI l k 0) = A at *
      simp [ax, rx, rg, ei]
    simp [loopS, bd]
theorem law_costs_ok (l : List Per) (hg : Gds l) (hl : l.length ≤ 500) : f_law_costs [rowsD l] = .ok (intsL (costs l l.length)) := by
  rw [u_law_costs]
  unfold g_law_costs
  have c1 : c_law_costs_1 [.va (rowsD l), .un, .un, .un, .un, .un, .un] = .ok (.list ((List.range l.length).map fun _ => PyData.none)) := by
    unfold c_law_costs_1
    have r := rg1_map l.length (by omega)
    exact comp_list (fun k : Nat => PyData.int (k : Int)) (fun _ => PyData.none) (List.range l.length) (by simp; omega) (by simp [r]) rfl fun x _ => ⟨_, rfl, rfl⟩
  have ca : sCat (.list [.int 0]) (.list ((List.range l.length).map fun _ => PyData.none)) = .ok (.list (arr l.length (fK l 0))) := by
    have hz : [PyData.int 0].length + ((List.range l.length).map fun _ => PyData.none).length ≤ sizeLine := le_size (by simp; omega)
    unfold sCat
    dsimp only
    rw [if_pos hz]
    refine congrArg (fun x => Rs.ok (PyData.list x)) ?_
    unfold arr
    rw [List.range_succ_eq_map, List.map_cons, List.map_map]
    rfl
  obtain ⟨t3, t4, t5, t6, ee⟩ := outer_loop l hg hl l.length 0 .un .un .un .un .un (by omega)
  have r := rg1_map l.length (by omega)
  rw [List.range_eq_range'] at r
  have fin : ∀ f : Nat → Option Int, (∀ t, t ≤ l.length → f t = some (C l t)) → PyData.list (arr l.length f) = intsL (costs l l.length) := by
    intro f hf
    unfold intsL
    rw [costs_map, List.map_map]
    unfold arr
    refine congrArg PyData.list (List.map_congr_left fun j hj => ?_)
    rw [hf j (by have := List.mem_range.mp hj; omega)]
    rfl
  by_cases h0 : l.length = 0
  · have : l = [] := List.eq_nil_of_length_eq_zero h0
    subst this
    have fin := fin (fK [] 0) (fun t ht => by
      have : t = 0 := by simpa using ht
      subst this
      rfl)
    simp only [List.length_nil] at *
    generalize arr 0 (fK [] 0) = A at *
    simp [List.range', loopS] at ee
    simp at ca
    simp [c1, ca, fin, loopS]
  · obtain ⟨j, hj⟩ : ∃ j, l.length = j + 1 := ⟨l.length - 1, by omega⟩
    obtain ⟨w, w1, w2⟩ := adj hg (k := j) (by omega)
    have y1 := at_getD (l := l) (k := j) (by omega)
    have ry : sIx (rowsD l) (.int (-1)) = .ok (pd (l.getD j Lw.P0)) := by
      refine ix_neg (k := 1) (by omega) (by simp; omega) ?_
      rw [List.length_map, hj, Nat.add_sub_cancel, List.getElem?_map, y1]
      rfl
    have f1 : fK l l.length (j + 1) = some w := by
      unfold fK
      rw [if_neg (by omega), if_neg (by omega), hj, w1]
    have f2 : fK l l.length j = some (C l j) := by
      unfold fK
      rw [if_pos (by omega)]
    have b1 : sIx (.list (arr l.length (fK l l.length))) (.int (-1)) = .ok (.int w) := by
      refine ix_neg (k := 1) (by omega) (by simp) ?_
      rw [arr_len, Nat.add_sub_cancel, arr_get _ (Nat.le_refl _), hj, ← hj, show fK l l.length l.length = fK l l.length (j + 1) by rw [← hj], f1]
      rfl
    have b2 : sIx (.list (arr l.length (fK l l.length))) (.int (-2)) = .ok (.int (C l j)) := by
      refine ix_neg (k := 2) (by omega) (by simp; omega) ?_
      rw [arr_len, show l.length + 1 - 2 = j by omega, arr_get _ (by omega), f2]
      rfl
    have il : ixN (arr l.length (fK l l.length)).length (-1) = some l.length := by
      unfold ixN
      rw [arr_len]
      first
        | (rw [if_neg (by omega), if_pos (by omega)]; exact congrArg some (by omega))
        | (rw [if_neg (by omega), if_neg (by omega)]; exact congrArg some (by omega))
    have lp : 0 < l.length := by omega
    have hd : dem l j = (l.getD j Lw.P0).1 := rfl
    rw [hd] at w2
    by_cases c : (l.getD j Lw.P0).1 = 0
    · rw [if_pos c] at w2
      have fin := fin (fun u => if u = l.length then some (min w (C l j)) else fK l l.length u) fun t ht => by
        show (if t = l.length then some (min w (C l j)) else fK l l.length t) = _
        by_cases e : t = l.length
        · rw [if_pos e, w2, e, hj]
        · rw [if_neg e]
          unfold fK
          rw [if_pos (by omega)]
      rw [← arr_set] at fin
      generalize l.getD j Lw.P0 = y at *
      generalize arr l.length (fK l l.length) = A at *
      generalize arr l.length (fK l 0) = A0 at *
      simp [c1, ca, r, ee, lp, ry, c, b1, b2, il, fin]
    · rw [if_neg c] at w2
      have fin := fin (fK l l.length) fun t ht => by
        by_cases e : t = l.length
        · rw [e, show fK l l.length l.length = fK l l.length (j + 1) by rw [← hj], f1, w2, hj]
        · unfold fK
          rw [if_pos (by omega)]
      generalize l.getD j Lw.P0 = y at *
      generalize arr l.length (fK l l.length) = A at *
      generalize arr l.length (fK l 0) = A0 at *
      simp [c1, ca, r, ee, lp, ry, c, fin]
end Lw

/-! the laws' own least cost for an ending stock; drawn rows -/
namespace Lw
open PySem Ct L2
theorem add_rows {l m : List Per} (h : l.length + m.length ≤ 1000) : sAdd (rowsD l) (rowsD m) = .ok (rowsD (l ++ m)) := by
  have hz : (l.map pd).length + (m.map pd).length ≤ sizeLine := le_size (by simp; omega)
  show (if (l.map pd).length + (m.map pd).length ≤ sizeLine then Rs.ok (PyData.list (l.map pd ++ m.map pd)) else Rs.stuck) = _
  rw [if_pos hz, ← List.map_append]
  rfl
@[simp] theorem rows_1 (a b c : Int) : PyData.list [.tuple [.int a, .int b, .int c]] = rowsD [(a, b, c)] := id rfl
def highV (l : List Per) (e : Int) : Int := 1 + (l.map fun x => x.2.1 + (e + dsum l) * x.2.2).sum
theorem hc_units : ∀ (l : List Per) (e u : Int), Gds l → 0 ≤ e → e + dsum l ≤ u → hc l e ≤ (l.map fun x => x.2.1 + u * x.2.2).sum
  | [], e, u, _, _, _ => by simp [hc]
  | x :: r, e, u, hg, he, hu => by
    have h1 := hg.head.h1
    have h2 := hg.head.s0
    have h3 := hg.head.d0
    rw [dsum_cons] at hu
    have ih := hc_units r e u hg.tail he (by omega)
    have := Int.mul_le_mul_of_nonneg_left (show dsum r + e ≤ u by omega) (show 0 ≤ x.2.2 by omega)
    rw [List.map_cons, List.sum_cons]
    unfold hc
    rw [Int.mul_comm u]
    omega
theorem sum_su_nn : ∀ (l : List Per) (u : Int), Gds l → 0 ≤ u → 0 ≤ (l.map fun x => x.2.1 + u * x.2.2).sum
  | [], _, _, _ => by simp
  | x :: r, u, hg, hu => by
    have := sum_su_nn r u hg.tail hu
    have h1 := hg.head.h1
    have h2 := hg.head.s0
    have := Int.mul_nonneg hu (show 0 ≤ x.2.2 by omega)
    rw [List.map_cons, List.sum_cons]
    omega
theorem high_ge (l : List Per) (e : Int) (hg : Gds l) (he : 0 ≤ e) (h : l ≠ []) : ∃ j, j < l.length ∧ V l l.length j e ≤ highV l e := by
  refine ⟨0, List.length_pos_iff.mpr h, ?_⟩
  cases l with
  | nil => exact absurd rfl h
  | cons x r =>
    have h1 := hg.head.h1
    have h3 := hg.head.d0
    have hd := dsum_nn r hg.tail
    have ih := hc_units r e (e + dsum (x :: r)) hg.tail he (by rw [dsum_cons]; omega)
    have := Int.mul_le_mul_of_nonneg_left (show dsum r + e ≤ e + dsum (x :: r) by rw [dsum_cons]; omega) (show 0 ≤ x.2.2 by omega)
    unfold V highV
    rw [seg_all, List.drop_zero, C_zero, List.map_cons, List.sum_cons]
    unfold hc
    rw [Int.mul_comm (e + dsum (x :: r)) x.2.2]
    show 0 + x.2.1 + _ ≤ _
    omega
theorem high_nn (l : List Per) (e : Int) (hg : Gds l) (he : 0 ≤ e) : 0 ≤ highV l e := by
  have := sum_su_nn l (e + dsum l) hg (by have := dsum_nn l hg; omega)
  unfold highV
  omega
theorem high_ok (l : List Per) (e : Int) (hg : Gds l) (hl : l.length ≤ 500) (he : 0 ≤ e) (he2 : e ≤ 1000000 * BC) : f_law_high [rowsD l, .int e] = .ok (.int (highV l e)) := by
  rw [u_law_high]
  unfold g_law_high
  have c1 : c_law_high_1 [.va (rowsD l), .va (.int e), .un, .un, .un, .un] = .ok (.list (l.map fun x => PyData.int x.1)) := by
    unfold c_law_high_1
    exact comp_list pd (fun x => PyData.int x.1) l (by omega) (by simp) rfl fun x _ => ⟨_, rfl, rfl⟩
  have s1 := sum_dem l
  have b1 := dsum_le l hg 500 hl
  have b2 := dsum_nn l hg
  have c2 : c_law_high_2 [.va (rowsD l), .va (.int e), .un, .un, .un, .va (.int (e + dsum l))] = .ok (.list (l.map fun x => PyData.int (x.2.1 + (e + dsum l) * x.2.2))) := by
    unfold c_law_high_2
    refine comp_list pd (fun x => PyData.int (x.2.1 + (e + dsum l) * x.2.2)) l (by omega) (by simp) rfl fun x hx => ⟨_, rfl, ?_⟩
    have h1 := (hg x hx).h1
    have h2 := (hg x hx).hb
    have h3 := BC_big
    have h4 := BB_pos
    have m := mulC (x := e + dsum l) (y := x.2.2) (by omega) (by omega) (by omega) (by omega)
    simp [m]
  have s2 := sum_mapI (fun x : Per => x.2.1 + (e + dsum l) * x.2.2) l
  unfold highV
  generalize dsum l = u at *
  simp [c1, s1, c2, s2]
theorem Gds.snoc {l : List Per} (hg : Gds l) {e S : Int} (he : 0 ≤ e) (he2 : e ≤ 1000000 * BC) (hS : 0 ≤ S) : Gds (l ++ [(e, S, 1)]) := hg.app fun x hx => by
  cases List.mem_singleton.mp hx
  exact ⟨he, hS, Int.le_refl _, he2, BB_pos⟩
theorem law_least_ok (l : List Per) (e : Int) (hg : Gds l) (hl : l.length ≤ 400) (he : 0 ≤ e) (he2 : e ≤ 1000000 * BC) (h : 0 < e → l ≠ []) : f_law_least [rowsD l, .int e] = .ok (.int (LC l e)) := by
  rw [u_law_least]
  unfold g_law_least
  by_cases h0 : e = 0
  · subst h0
    have c := law_costs_ok l hg (by omega)
    have cl := costs_last l
    rw [LC_zero]
    simp [c, cl]
  · have hh := high_ok l e hg (by omega) he he2
    have ar := add_rows (l := l) (m := [(e, highV l e, 1)]) (by simp; omega)
    have c := law_costs_ok (l ++ [(e, highV l e, 1)]) (hg.snoc he he2 (high_nn l e hg he)) (by simp; omega)
    have cl := costs_last (l ++ [(e, highV l e, 1)])
    have hn := h (by omega)
    have cd := C_dear (S := highV l e) (h := 1) hg (show 0 < e by omega) (List.length_pos_iff.mpr hn) (high_ge l e hg he hn)
    rw [List.length_append, List.length_singleton] at cl c
    rw [cd] at cl
    simp [h0, hh, ar, c, cl]
/-- the first m periods without demand -/
def quiet (l : List Per) (m : Nat) : List Per := (l.take m).map (fun x => (0, x.2.1, x.2.2)) ++ l.drop m
theorem quiet_len (l : List Per) (m : Nat) (h : m ≤ l.length) : (quiet l m).length = l.length := by
  unfold quiet
  simp
  omega
theorem quiet_mem {l : List Per} {m : Nat} {x : Per} (h : x ∈ quiet l m) : x ∈ l ∨ ∃ y ∈ l, x = (0, y.2.1, y.2.2) := by
  unfold quiet at h
  rcases List.mem_append.mp h with h | h
  · obtain ⟨y, h1, h2⟩ := List.mem_map.mp h
    exact .inr ⟨y, List.mem_of_mem_take h1, h2.symm⟩
  · exact .inl (List.mem_of_mem_drop h)
theorem quiet_gds {l : List Per} (hg : Gds l) (m : Nat) : Gds (quiet l m) := fun x hx => by
  rcases quiet_mem hx with h | ⟨y, h, rfl⟩
  · exact hg x h
  · have := hg y h
    have := BC_big
    have := BB_pos
    exact ⟨Int.le_refl 0, (hg y h).s0, (hg y h).h1, by show (0 : Int) ≤ _; omega, (hg y h).hb⟩
theorem quiet_sml {l : List Per} (hg : Sml l) (m : Nat) : Sml (quiet l m) := fun x hx => by
  rcases quiet_mem hx with h | ⟨y, h, rfl⟩
  · exact hg x h
  · exact ⟨by have := BB_pos; show (0 : Int) ≤ _; omega, (hg y h).2⟩
theorem quiet_ok (l : List Per) (m : Nat) (h : m ≤ l.length) (hl : l.length ≤ 400) : f_law_quiet [rowsD l, .int (m : Int)] = .ok (rowsD (quiet l m)) := by
  rw [u_law_quiet]
  unfold g_law_quiet
  have c : c_law_quiet_1 [.va (rowsD l), .va (.int (m : Int)), .un] = .ok (rowsD ((l.take m).map fun x => (0, x.2.1, x.2.2))) := by
    unfold c_law_quiet_1
    have r := rg1_map m (by omega)
    have := comp_list (vs := [2]) (f := iRg1 (aCons (fV 1) aNil)) (tg := tgN 2) (e := fTup (aCons (fC (.int 0)) (aCons (fBin sIx (fBin sIx (fV 0) (fV 2)) (fC (.int 1))) (aCons (fBin sIx (fBin sIx (fV 0) (fV 2)) (fC (.int 2))) aNil)))) (ρ := [.va (rowsD l), .va (.int (m : Int)), .un]) (fun k : Nat => PyData.int (k : Int)) (fun k => pd (0, (l.getD k Lw.P0).2.1, (l.getD k Lw.P0).2.2)) (List.range m) (by simp; omega) (by simp [r]) rfl fun k hk => by
      have hk := List.mem_range.mp hk
      have rx := row_at (at_getD (l := l) (k := k) (by omega))
      generalize l.getD k Lw.P0 = x at *
      exact ⟨_, rfl, by simp [rx, pd]⟩
    rw [this]
    have e : ((List.range m).map fun k => pd (0, (l.getD k Lw.P0).2.1, (l.getD k Lw.P0).2.2)) = ((l.take m).map fun x => (0, x.2.1, x.2.2)).map pd := by
      rw [List.map_map]
      refine List.ext_getElem? fun j => ?_
      rw [List.getElem?_map, List.getElem?_map]
      by_cases hj : j < m
      · rw [List.getElem?_range hj, List.getElem?_take_of_lt hj, at_getD (by omega)]
        rfl
      · rw [List.getElem?_eq_none (by simp; omega), List.getElem?_eq_none (by simp; omega)]
        rfl
    rw [e]
    rfl
  have s := ks_d0 l m
  have ar := add_rows (l := (l.take m).map fun x => (0, x.2.1, x.2.2)) (m := l.drop m) (by simp; omega)
  unfold quiet
  generalize ((l.take m).map fun x : Per => ((0 : Int), x.2.1, x.2.2)) = a at *
  generalize l.drop m = b at *
  simp [c, s, ar]
def str (x : Per) : Per := (x.1 * 10 ^ 100, x.2.1 * 10 ^ 100 * 10 ^ 100, x.2.2 * 10 ^ 100)
theorem str_gd {x : Per} (h : Good x) : Gd (str x) ∧ (str x).1 ≤ BB ∧ (str x).2.1 ≤ BB := by
  obtain ⟨h1, h2, h3, h4, h5, h6⟩ := h
  have b1 := BB_big
  have b2 := BC_big
  have e1 : (10 : Int) ^ 300 = 10 ^ 60 * 10 ^ 100 * 10 ^ 100 * 10 ^ 40 := by decide +kernel
  have p : (0 : Int) < 10 ^ 100 := by decide +kernel
  have p40 : (1 : Int) ≤ 10 ^ 40 := by decide +kernel
  have q60 : (1 : Int) ≤ 10 ^ 60 := by decide +kernel
  unfold str
  have m1 : 0 ≤ x.1 * 10 ^ 100 := Int.mul_nonneg h1 (by omega)
  have m2 : x.1 * 10 ^ 100 ≤ 10 ^ 60 * 10 ^ 100 := Int.mul_le_mul_of_nonneg_right (by omega) (by omega)
  have m3 : 0 ≤ x.2.1 * 10 ^ 100 * 10 ^ 100 := Int.mul_nonneg (Int.mul_nonneg h2 (by omega)) (by omega)
  have m4 : x.2.1 * 10 ^ 100 * 10 ^ 100 ≤ 10 ^ 60 * 10 ^ 100 * 10 ^ 100 := Int.mul_le_mul_of_nonneg_right (Int.mul_le_mul_of_nonneg_right (by omega) (by omega)) (by omega)
  have m5 : 1 * 10 ^ 100 ≤ x.2.2 * 10 ^ 100 := Int.mul_le_mul_of_nonneg_right (by omega) (by omega)
  have m6 : x.2.2 * 10 ^ 100 ≤ 10 ^ 60 * 10 ^ 100 := Int.mul_le_mul_of_nonneg_right (by omega) (by omega)
  have k1 : (10 : Int) ^ 60 * 10 ^ 100 ≤ 10 ^ 300 := by decide +kernel
  have k2 : (10 : Int) ^ 60 * 10 ^ 100 * 10 ^ 100 ≤ 10 ^ 300 := by decide +kernel
  generalize x.1 * 10 ^ 100 = a at *
  generalize x.2.1 * 10 ^ 100 * 10 ^ 100 = b at *
  generalize x.2.2 * 10 ^ 100 = c at *
  refine ⟨⟨m1, m3, ?_, ?_, ?_⟩, ?_, ?_⟩ <;> dsimp only <;> omega
theorem stretched_ok (l : List Per) (hg : ∀ x ∈ l, Good x) (hl : l.length ≤ 400) : f_law_stretched [rowsD l] = .ok (rowsD (l.map str)) := by
  rw [u_law_stretched]
  unfold g_law_stretched
  have m0 : sMul (.int (10 ^ 50)) (.int (10 ^ 50)) = .ok (.int (10 ^ 100)) := mul_ok (a := 200) (b := 200) (by unfold Sm; decide +kernel) (by unfold Sm; decide +kernel)
  have c : c_law_stretched_1 [.va (rowsD l), .va (.int (10 ^ 100)), .un, .un, .un] = .ok (.list (l.map fun x => pd (str x))) := by
    unfold c_law_stretched_1
    refine comp_list pd (fun x => pd (str x)) l (by omega) (by simp) rfl fun x hx => ⟨_, rfl, ?_⟩
    obtain ⟨h1, h2, h3, h4, h5, h6⟩ := hg x hx
    have s1 : Sm 200 x.1 := by unfold Sm; omega
    have s2 : Sm 200 x.2.1 := by unfold Sm; omega
    have s3 : Sm 200 x.2.2 := by unfold Sm; omega
    have s4 : Sm 400 ((10 : Int) ^ 100) := by unfold Sm; decide +kernel
    have a1 := mul_ok s1 s4
    have a2 := mul_ok s2 s4
    have a3 := mul_ok s3 s4
    have a4 := mul_ok (s2.mul s4) s4
    unfold str
    generalize (10 : Int) ^ 100 = T at *
    simp [a1, a2, a3, a4, pd]
  have e : (PyData.list (l.map fun x => pd (str x))) = rowsD (l.map str) := by
    unfold rowsD
    rw [List.map_map]
    rfl
  rw [e] at c
  generalize (10 : Int) ^ 100 = T at *
  generalize (10 : Int) ^ 50 = U at *
  simp [m0, c]
end Lw

/-! the lines of the starts; what can be forced -/
namespace Lw
open PySem Ct L2
@[simp] theorem q_mReverse (ds : List D) : mReverse ds [] = .ok ds.reverse := id rfl
def base (l : List Per) (j : Nat) : Int := V l l.length j 0
def rate (l : List Per) (j : Nat) : Int := rt (l.drop j)
def lineD (l : List Per) (j : Nat) : D := .tuple [.int (base l j), .int (rate l j)]
def linesD (l : List Per) : D := .list ((List.range l.length).map (lineD l))
theorem line_at (l : List Per) (j : Nat) (e : Int) : V l l.length j e = base l j + rate l j * e := by
  rw [V_lin, seg_all]
  rfl
theorem rate_succ {l : List Per} {k : Nat} (h : k < l.length) : rate l k = rate l (k + 1) + (l.getD k P0).2.2 := by
  unfold rate
  rw [List.drop_eq_getElem_cons h, rt, List.getD_eq_getElem?_getD, List.getElem?_eq_getElem h]
  show _ = _ + (l[k]).2.2
  omega
theorem rate_end (l : List Per) : rate l l.length = 0 := by
  unfold rate
  rw [List.drop_length]
  rfl
theorem rate_pos {l : List Per} (hg : Gds l) {k : Nat} (h : k < l.length) : 1 ≤ rate l k := by
  rw [rate_succ h]
  have := (hg.at (at_getD h)).h1
  have := rt_nn _ (hg.drop (k + 1))
  unfold rate
  omega
theorem rate_le {l : List Per} (hg : Gds l) (k : Nat) : rate l k ≤ l.length * BB := by
  have h := rt_le _ (hg.drop k)
  have h2 : ((l.drop k).length : Int) * BB ≤ l.length * BB := mul_BB (by rw [List.length_drop]; omega)
  unfold rate
  omega
theorem rate_dec {l : List Per} (hg : Gds l) : ∀ {j k : Nat}, j < k → k ≤ l.length → rate l k < rate l j := by
  intro j k h hk
  induction k with
  | zero => omega
  | succ k ih =>
    have := rate_succ (l := l) (k := k) (by omega)
    have := (hg.at (at_getD (l := l) (k := k) (by omega))).h1
    by_cases e : j = k
    · subst e; omega
    · have := ih (by omega) (by omega)
      omega
theorem base_nn {l : List Per} (hg : Gds l) {j : Nat} (h : j < l.length) : 0 ≤ base l j := V_nn hg (Nat.le_refl _) h (Int.le_refl _)
theorem lines_loop (l : List Per) (hg : Gds l) (hl : l.length ≤ 500) : ∀ (k : Nat) (s4 : Sl), k ≤ l.length → ∃ t4, loopS (tgN 4) b_cost_lines_1 ((List.range k).map fun k : Nat => PyData.int (k : Int)).reverse [.va (rowsD l), .va (intsL ((List.range l.length).map (base l))), .va (.int (rate l k)), .ow ((List.range' k (l.length - k)).map (lineD l)).reverse, s4] = .nx [.va (rowsD l), .va (intsL ((List.range l.length).map (base l))), .va (.int (rate l 0)), .ow ((List.range' 0 l.length).map (lineD l)).reverse, t4]
  | 0, s4, _ => ⟨s4, by simp [loopS]⟩
  | k + 1, s4, hk => by
    have x1 := at_getD (l := l) (k := k) (by omega)
    have rx := row_at x1
    have rb : sIx (intsL ((List.range l.length).map (base l))) (.int (k : Int)) = .ok (.int (base l k)) := by
      refine ix_map ?_
      rw [List.getElem?_map, List.getElem?_range (by omega)]
      rfl
    obtain ⟨t4, e⟩ := lines_loop l hg hl k (.va (.int k)) (by omega)
    refine ⟨t4, ?_⟩
    rw [← e, List.range_succ, List.map_append, List.map_singleton, List.reverse_append, List.reverse_singleton]
    have hz : ((List.range' (k + 1) (l.length - (k + 1))).map (lineD l)).length < sizeLine := lt_size (by simp; omega)
    have rs := rate_succ (l := l) (k := k) (by omega)
    have ll : ((List.range' (k + 1) (l.length - (k + 1))).map (lineD l)).reverse ++ [.tuple [.int (base l k), .int (rate l k)]] = ((List.range' k (l.length - k)).map (lineD l)).reverse := by
      rw [show l.length - k = (l.length - (k + 1)) + 1 by omega, List.range'_succ, List.map_cons, List.reverse_cons]
      rfl
    rw [rs] at ll ⊢
    generalize (List.range l.length).map (base l) = B at *
    generalize l.getD k P0 = x at *
    generalize ((List.range' (k + 1) (l.length - (k + 1))).map (lineD l)) = A at *
    generalize ((List.range' k (l.length - k)).map (lineD l)).reverse = A' at *
    simp [loopS, b_cost_lines_1, rx, rb, hz, ll]
theorem lines_ok (l : List Per) (hg : Gds l) (hl : l.length ≤ 500) : f_cost_lines [rowsD l] = .ok (linesD l) := by
  rw [u_cost_lines]
  unfold g_cost_lines
  have lc := least_ok l hg hl
  have la := last_ok l (costs l l.length) l.length 0 hg (Nat.le_refl _) (by rw [costs_len]; omega) hl (Int.le_refl _) (by have := BC_big; have := BB_pos; omega)
  rw [last_V l l.length l.length 0 (by omega)] at la
  obtain ⟨t4, e⟩ := lines_loop l hg hl l.length .un (Nat.le_refl _)
  rw [rate_end, Nat.sub_self, ← List.range_eq_range'] at e
  have r := rg1_map l.length (by omega)
  have bb : ((List.range l.length).map fun j => V l l.length j 0) = (List.range l.length).map (base l) := rfl
  rw [bb] at la
  unfold linesD
  generalize (List.range l.length).map (base l) = B at *
  generalize (List.range l.length).map (lineD l) = A at *
  generalize costs l l.length = cs at *
  simp [List.range'] at e
  simp [lc, la, r, e]
theorem max_ints {o : List Int} (h : o ≠ []) : sMax (intsL o) = .ok (.int (lmax o)) := by
  cases o with
  | nil => exact absurd rfl h
  | cons n ns =>
    show (match intsD ((n :: ns).map PyData.int) with | some (n :: ns) => Rs.ok (PyData.int (lmax (n :: ns))) | _ => Rs.stuck) = _
    rw [intsD_map]
/-- the greatest ending stock that can be forced -/
def gF (l : List Per) (cap : Int) : Int := lmax (0 :: (List.range l.length).map fun j => (LC l 0 + cap - 1 - base l j) / rate l j)
theorem gF_nn (l : List Per) (cap : Int) : 0 ≤ gF l cap := lmax_le (List.mem_cons_self)
theorem LC_mono {l : List Per} (hg : Gds l) {e e' : Int} (h0 : 0 ≤ e) (h : e ≤ e') (hn : 0 < e' → 0 < l.length) : LC l e ≤ LC l e' := by
  by_cases z : e' = 0
  · have : e = 0 := by omega
    subst this; subst z; exact Int.le_refl _
  · have hp := hn (by omega)
    obtain ⟨j, h1, h2⟩ := LC_at hp z
    rw [h2]
    refine Int.le_trans (LC_le hg h1) ?_
    rw [line_at, line_at]
    have := Int.mul_le_mul_of_nonneg_left h (show 0 ≤ rate l j by have := rate_pos hg h1; omega)
    omega
theorem LC_inc {l : List Per} (hg : Gds l) {e e' : Int} (h0 : 0 ≤ e) (h : e < e') (hp : 0 < l.length) : LC l e < LC l e' := by
  obtain ⟨j, h1, h2⟩ := LC_at (e := e') hp (by omega)
  rw [h2]
  refine Int.lt_of_le_of_lt (LC_le hg h1) ?_
  rw [line_at, line_at]
  have := Int.mul_lt_mul_of_pos_left h (show 0 < rate l j by have := rate_pos hg h1; omega)
  omega
theorem forced_iff {l : List Per} (hg : Gds l) (hp : 0 < l.length) {e cap : Int} (he : 1 ≤ e) : LC l e < LC l 0 + cap ↔ e ≤ gF l cap := by
  constructor
  · intro h
    obtain ⟨j, h1, h2⟩ := LC_at (e := e) hp (by omega)
    rw [h2, line_at] at h
    have rp := rate_pos hg h1
    have : e ≤ (LC l 0 + cap - 1 - base l j) / rate l j := by
      refine (Int.le_ediv_iff_mul_le (by omega)).mpr ?_
      rw [Int.mul_comm]
      omega
    refine Int.le_trans this (lmax_le (List.mem_cons_of_mem _ (List.mem_map.mpr ⟨j, List.mem_range.mpr h1, rfl⟩)))
  · intro h
    have hm : gF l cap ∈ (0 :: (List.range l.length).map fun j => (LC l 0 + cap - 1 - base l j) / rate l j) := lmax_mem (by simp)
    rcases List.mem_cons.mp hm with z | z
    · omega
    · obtain ⟨j, h1, h2⟩ := List.mem_map.mp z
      have h1 := List.mem_range.mp h1
      have rp := rate_pos hg h1
      rw [← h2] at h
      have := (Int.le_ediv_iff_mul_le (show 0 < rate l j by omega)).mp h
      rw [Int.mul_comm] at this
      have := LC_le hg (e := e) h1
      rw [line_at] at this
      omega
theorem gF_zero {l : List Per} (hg : Gds l) (hp : 0 < l.length) : gF l 0 = 0 := by
  have h0 := gF_nn l 0
  by_cases h : 1 ≤ gF l 0
  · have := (forced_iff hg hp (cap := 0) h).mpr (Int.le_refl _)
    have := LC_mono hg (e := 0) (e' := gF l 0) (Int.le_refl _) (by omega) (fun _ => hp)
    omega
  · omega
theorem gF_le {l : List Per} (hg : Gds l) {cap : Int} (hc : 0 ≤ cap) : gF l cap ≤ LC l 0 + cap := by
  have hm : gF l cap ∈ (0 :: (List.range l.length).map fun j => (LC l 0 + cap - 1 - base l j) / rate l j) := lmax_mem (by simp)
  have l0 : 0 ≤ LC l 0 := by rw [LC_zero]; exact C_nn hg _ (Nat.le_refl _)
  rcases List.mem_cons.mp hm with z | z
  · omega
  · obtain ⟨j, h1, h2⟩ := List.mem_map.mp z
    have h1 := List.mem_range.mp h1
    have rp := rate_pos hg h1
    have bp := base_nn hg h1
    rw [← h2]
    by_cases c : 0 ≤ LC l 0 + cap - 1 - base l j
    · have := Int.ediv_le_self (rate l j) c
      omega
    · have := Int.ediv_neg_of_neg_of_pos (show LC l 0 + cap - 1 - base l j < 0 by omega) (show 0 < rate l j by omega)
      omega
theorem hc_bd : ∀ (l : List Per) (e u : Int), Gds l → 0 ≤ e → dsum l + e ≤ u → hc l e ≤ rt l * u
  | [], e, u, _, _, _ => by simp [hc, rt]
  | x :: r, e, u, hg, he, hu => by
    have h1 := hg.head.h1
    have h3 := hg.head.d0
    rw [dsum_cons] at hu
    have ih := hc_bd r e u hg.tail he (by omega)
    have := Int.mul_le_mul_of_nonneg_left (show dsum r + e ≤ u by omega) (show 0 ≤ x.2.2 by omega)
    unfold hc rt
    rw [Int.add_mul]
    omega
theorem LC_bd {l : List Per} (hg : Gds l) (hs : Sml l) (hl : l.length ≤ 64) {e : Int} (h0 : 0 ≤ e) (he : e ≤ BB) : LC l e ≤ 5000 * BC := by
  have b1 := BC_big
  have b2 := BB_pos
  by_cases hp : 0 < l.length
  · refine Int.le_trans (LC_le hg hp) ?_
    unfold V
    rw [seg_all, List.drop_zero, C_zero]
    have s0 : setup l 0 ≤ BB := (hs _ (List.mem_of_getElem? (at_getD hp))).2
    have d1 := dsum_sm l hs
    have d2 := mul_BB hl
    have r1 := rt_le l hg
    have r0 := rt_nn l hg
    have h1 := hc_bd l e (65 * BB) hg h0 (by omega)
    have h2 : rt l * (65 * BB) ≤ 64 * BB * (65 * BB) := Int.mul_le_mul_of_nonneg_right (by omega) (by omega)
    have h3 : 64 * BB * (65 * BB) = 4160 * BC := by unfold BC; grind
    omega
  · have : l = [] := List.eq_nil_of_length_eq_zero (by omega)
    subst this
    unfold LC
    split
    · show (0 : Int) ≤ _; omega
    · show (0 : Int) ≤ _; omega
theorem greatest_none (l : List Per) (hg : Gds l) (h : l ≠ []) : f_greatest_forced [rowsD l, .none] = .ok .none := by
  rw [u_greatest_forced]
  unfold g_greatest_forced
  have c := check_ok l hg
  simp [c, h]
theorem greatest_no (d : D) : f_greatest_forced [rowsD [], d] = .exc ⟨2, []⟩ := by
  rw [u_greatest_forced]
  unfold g_greatest_forced
  have c := check_ok [] (fun x hx => by cases hx)
  simp [c]
theorem greatest_ok (l : List Per) (cap : Int) (hg : Gds l) (hl : l.length ≤ 500) (h : l ≠ []) : f_greatest_forced [rowsD l, .int cap] = .ok (.int (gF l cap)) := by
  rw [u_greatest_forced]
  unfold g_greatest_forced
  have c := check_ok l hg
  have b1 := BC_big
  have b2 := BB_pos
  have lc := least_cost_ok l 0 hg hl (Int.le_refl _) (by omega) (fun z => by omega)
  have li := lines_ok l hg hl
  have cc : c_greatest_forced_1 [.va (rowsD l), .va (.int cap), .va (.int (LC l 0 + cap - 1)), .un, .un] = .ok (intsL ((List.range l.length).map fun j => (LC l 0 + cap - 1 - base l j) / rate l j)) := by
    unfold c_greatest_forced_1
    have := comp_list (vs := [3, 4]) (f := iLst (fCall f_cost_lines (aCons (fV 0) aNil))) (tg := tgT [(tgN 3), (tgN 4)]) (e := fBin sDiv (fBin sSub (fV 2) (fV 3)) (fV 4)) (ρ := [.va (rowsD l), .va (.int cap), .va (.int (LC l 0 + cap - 1)), .un, .un]) (lineD l) (fun j => PyData.int ((LC l 0 + cap - 1 - base l j) / rate l j)) (List.range l.length) (by simp; omega) (by simp [li, linesD]) rfl fun j hj => by
      have hj := List.mem_range.mp hj
      have r1 := rate_pos hg hj
      have r2 := rate_le hg j
      have r3 := mul_BB hl
      have dv := divC (x := LC l 0 + cap - 1 - base l j) r1 (by omega)
      exact ⟨_, rfl, by simp [dv]⟩
    rw [this]
    unfold intsL
    rw [List.map_map]
    rfl
  have mx := max_ints (o := 0 :: (List.range l.length).map fun j => (LC l 0 + cap - 1 - base l j) / rate l j) (by simp)
  have ad : sAdd (.list [.int 0]) (intsL ((List.range l.length).map fun j => (LC l 0 + cap - 1 - base l j) / rate l j)) = .ok (intsL (0 :: (List.range l.length).map fun j => (LC l 0 + cap - 1 - base l j) / rate l j)) := by
    have hz : [PyData.int 0].length + (((List.range l.length).map fun j => (LC l 0 + cap - 1 - base l j) / rate l j).map PyData.int).length ≤ sizeLine := le_size (by simp; omega)
    unfold intsL sAdd
    dsimp only
    rw [if_pos hz]
    rfl
  unfold gF
  generalize ((List.range l.length).map fun j => (LC l 0 + cap - 1 - base l j) / rate l j) = Q at *
  simp [c, h, lc, cc, ad, mx]
end Lw

/-! the laws' lines, crossings; how least costs rise -/
namespace Lw
open PySem Ct L2
theorem ks_neg (l : List Per) {k : Nat} (hk : 1 ≤ k) (h : k ≤ l.length) : kSlice (rowsD l) none (some (-(k : Int))) = .ok (rowsD (l.take (l.length - k))) := by
  show Rs.ok (PyData.list (cutD (l.map pd) none (some (-(k : Int))))) = _
  have : HT.sIx (l.map pd).length (l.map pd).length (some (-(k : Int))) = l.length - k := by
    show (if -(k : Int) < 0 then (-(k : Int) + ((l.map pd).length : Int)).toNat else _) = _
    rw [if_pos (by omega), List.length_map]
    omega
  unfold cutD
  rw [HT.sIx_none, this, List.drop_zero, Nat.sub_zero, ← List.map_take]
  rfl
theorem ks_neg1 (l : List Per) (h : 1 ≤ l.length) : kSlice (rowsD l) none (some (-1)) = .ok (rowsD (l.take (l.length - 1))) := ks_neg l (k := 1) (by omega) h
theorem row_neg1 {l : List Per} (h : 1 ≤ l.length) : sIx (rowsD l) (.int (-1)) = .ok (pd (l.getD (l.length - 1) P0)) := by
  refine ix_neg (k := 1) (by omega) (by simpa using h) ?_
  rw [List.length_map, List.getElem?_map, at_getD (by omega)]
  rfl
theorem ints_loop (O : D) : ∀ (o : List Int) (s : Sl), ∃ t, loopS (tgN 1) b_law_integers_1 (o.map PyData.int) [.va O, s] = .nx [.va O, t]
  | [], s => ⟨s, by simp [loopS]⟩
  | q :: o, s => by
    obtain ⟨t, e⟩ := ints_loop O o (.va (.int q))
    exact ⟨t, by rw [← e]; simp [loopS, b_law_integers_1]⟩
theorem integers_ok (o : List Int) : f_law_integers [intsL o] = .ok (.bool true) := by
  rw [u_law_integers]
  unfold g_law_integers
  obtain ⟨t, e⟩ := ints_loop (intsL o) o .un
  have ti : sIsT "list" (intsL o) = .ok (.bool true) := rfl
  simp [ti, e]
theorem line_loop (L R : D) (K : List D) (s3 : Sl) : ∀ (l : List Per) (b r : Int) (s6 s7 s8 : Sl), Gds l → 0 ≤ r → r + rt l ≤ 1000 * BB → ∃ t6 t7 t8, loopS (tgT [(tgN 6), (tgN 7), (tgN 8)]) b_law_lines_1 (l.map pd) [.va L, .va R, .ow K, s3, .va (.int b), .va (.int r), s6, s7, s8] = .nx [.va L, .va R, .ow K, s3, .va (.int (b + hc l 0 + r * dsum l)), .va (.int (r + rt l)), t6, t7, t8]
  | [], b, r, s6, s7, s8, _, _, _ => ⟨s6, s7, s8, by simp [loopS, hc, rt]⟩
  | x :: l, b, r, s6, s7, s8, hg, hr, hb => by
    have h1 := hg.head.h1
    have h2 := hg.head.hb
    have h3 := hg.head.d0
    have h4 := hg.head.db
    have rn := rt_nn l hg.tail
    have b1 := BC_big
    have b2 := BB_pos
    have rtc : rt (x :: l) = x.2.2 + rt l := rfl
    rw [rtc] at hb
    obtain ⟨t6, t7, t8, e⟩ := line_loop L R K s3 l (b + r * x.1) (r + x.2.2) (.va (.int x.1)) (.va (.int x.2.1)) (.va (.int x.2.2)) hg.tail (by omega) (by omega)
    refine ⟨t6, t7, t8, ?_⟩
    have e1 : b + hc (x :: l) 0 + r * dsum (x :: l) = b + r * x.1 + hc l 0 + (r + x.2.2) * dsum l := by
      have h0 : hc (x :: l) 0 = x.2.2 * (dsum l + 0) + hc l 0 := rfl
      rw [dsum_cons, h0]
      grind
    have e2 : r + rt (x :: l) = r + x.2.2 + rt l := by rw [rtc]; omega
    rw [e1, e2, ← e]
    have m := mulC (x := r) (y := x.1) (by omega) (by omega) (by omega) (by omega)
    simp [loopS, b_law_lines_1, pd, m]
theorem llines_loop (l : List Per) (hg : Gds l) (hl : l.length ≤ 500) : ∀ (m k : Nat) (s3 s4 s5 s6 s7 s8 : Sl), k + m = l.length → ∃ t3 t4 t5 t6 t7 t8, loopS (tgN 3) b_law_lines_2 ((List.range' k m).map fun k : Nat => PyData.int (k : Int)) [.va (rowsD l), .va (intsL (costs l l.length)), .ow ((List.range k).map (lineD l)), s3, s4, s5, s6, s7, s8] = .nx [.va (rowsD l), .va (intsL (costs l l.length)), .ow ((List.range l.length).map (lineD l)), t3, t4, t5, t6, t7, t8]
  | 0, k, s3, s4, s5, s6, s7, s8, h => ⟨s3, s4, s5, s6, s7, s8, by simp at h; subst h; simp [loopS]⟩
  | m + 1, k, s3, s4, s5, s6, s7, s8, h => by
    have x1 := at_getD (l := l) (k := k) (by omega)
    have rx := row_at x1
    have rc : sIx (intsL (costs l l.length)) (.int (k : Int)) = .ok (.int (C l k)) := ix_map (costs_at l l.length k (by omega))
    have b0 := rt_le (l.drop k) (hg.drop k)
    have b1 : ((l.drop k).length : Int) * BB ≤ 500 * BB := mul_BB (b := 500) (by simp; omega)
    have b2 := BB_pos
    obtain ⟨u6, u7, u8, ei⟩ := line_loop (rowsD l) (intsL (costs l l.length)) ((List.range k).map (lineD l)) (.va (.int k)) (l.drop k) (C l k + setup l k) 0 s6 s7 s8 (hg.drop k) (Int.le_refl _) (by omega)
    have eb : C l k + setup l k + hc (l.drop k) 0 + 0 * dsum (l.drop k) = base l k := by
      unfold base V
      rw [seg_all]
      omega
    have er : 0 + rt (l.drop k) = rate l k := by unfold rate; omega
    rw [eb, er] at ei
    obtain ⟨t3, t4, t5, t6, t7, t8, e⟩ := llines_loop l hg hl m (k + 1) (.va (.int k)) (.va (.int (base l k))) (.va (.int (rate l k))) u6 u7 u8 (by omega)
    refine ⟨t3, t4, t5, t6, t7, t8, ?_⟩
    rw [← e, List.range'_succ, List.range_succ, List.map_append, List.map_singleton]
    have hs : setup l k = (l.getD k P0).2.1 := rfl
    rw [hs] at ei
    have sl := ks_d0 l k
    have hz : ((List.range k).map (lineD l)).length < sizeLine := lt_size (by simp; omega)
    have ll : lineD l k = .tuple [.int (base l k), .int (rate l k)] := rfl
    rw [ll]
    generalize l.getD k P0 = x at *
    generalize l.drop k = ld at *
    generalize (List.range k).map (lineD l) = A at *
    generalize costs l l.length = cs at *
    simp [loopS, b_law_lines_2, rc, rx, sl, ei, hz]
theorem law_lines_ok (l : List Per) (hg : Gds l) (hl : l.length ≤ 500) : f_law_lines [rowsD l] = .ok (linesD l) := by
  rw [u_law_lines]
  unfold g_law_lines
  have c := law_costs_ok l hg hl
  obtain ⟨t3, t4, t5, t6, t7, t8, e⟩ := llines_loop l hg hl l.length 0 .un .un .un .un .un .un (by omega)
  rw [← List.range_eq_range'] at e
  have r := rg1_map l.length (by omega)
  unfold linesD
  generalize (List.range l.length).map (lineD l) = A at *
  generalize costs l l.length = cs at *
  simp at e
  simp [c, r, e]
theorem line_ix {l : List Per} {k : Int} (h0 : 0 ≤ k) (h : k < l.length) : sIx (linesD l) (.int k) = .ok (.tuple [.int (base l k.toNat), .int (rate l k.toNat)]) := by
  refine ix_mapI (p := lineD l) (x := k.toNat) h0 ?_
  rw [List.getElem?_range (by omega)]
@[simp] theorem lines_len (l : List Per) : sLen (linesD l) = .ok (.int (l.length : Int)) := by simp [linesD]
theorem C_bd {l : List Per} (hg : Gds l) (hs : Sml l) (hl : l.length ≤ 64) {k : Nat} (hk : k ≤ l.length) : C l k ≤ 5000 * BC := by
  have := LC_bd (hg.take k) (hs.take k) (by rw [List.length_take]; omega) (Int.le_refl 0) (by have := BB_pos; omega)
  have e : (l.take k).length = k := by rw [List.length_take]; omega
  rw [LC_zero, e, C_take (Nat.le_refl _) hk] at this
  exact this
theorem base_bd {l : List Per} (hg : Gds l) (hs : Sml l) (hl : l.length ≤ 64) {k : Nat} (hk : k < l.length) : base l k ≤ 10000 * BC := by
  have b1 := BC_big
  have b2 := BB_pos
  have c := C_bd hg hs hl (k := k) (by omega)
  have s0 : setup l k ≤ BB := (hs _ (List.mem_of_getElem? (at_getD hk))).2
  have d1 := dsum_sm _ (hs.drop k)
  have d2 := mul_BB (show (l.drop k).length ≤ 64 by simp; omega)
  have r1 := rt_le _ (hg.drop k)
  have r0 := rt_nn _ (hg.drop k)
  have h1 := hc_bd (l.drop k) 0 (64 * BB) (hg.drop k) (Int.le_refl _) (by omega)
  have h2 : rt (l.drop k) * (64 * BB) ≤ 64 * BB * (64 * BB) := Int.mul_le_mul_of_nonneg_right (by omega) (by omega)
  have h3 : 64 * BB * (64 * BB) = 4096 * BC := by unfold BC; grind
  unfold base V
  rw [seg_all]
  omega
theorem ediv_abs {a b B : Int} (hb : 1 ≤ b) (h1 : -B ≤ a) (h2 : a ≤ B) (h3 : 0 ≤ B) : -B ≤ a / b ∧ a / b ≤ B := by
  constructor
  · refine (Int.le_ediv_iff_mul_le (by omega)).mpr ?_
    have := Int.mul_le_mul_of_nonneg_left hb (show 0 ≤ B by omega)
    rw [Int.neg_mul]
    omega
  · by_cases c : 0 ≤ a
    · have := Int.ediv_le_self b c
      omega
    · have := Int.ediv_neg_of_neg_of_pos (show a < 0 by omega) (show 0 < b by omega)
      omega
theorem crossing_ok (l : List Per) (n : Int) (hg : Gds l) (hs : Sml l) (hl : l.length ≤ 64) (hp : l ≠ []) : ∃ e : Int, 1 ≤ e ∧ e ≤ 10000 * BC ∧ f_law_crossing [rowsD l, .int n] = .ok (.int e) := by
  rw [u_law_crossing]
  unfold g_law_crossing
  have hpl := List.length_pos_iff.mpr hp
  have li := law_lines_ok l hg (by omega)
  have ml : ∀ i : Int, sMod (.int i) (.int (l.length : Int)) = .ok (.int (i % (l.length : Int))) := fun i => q_sMod (by omega)
  have dl := dv_ok n (l.length : Int) (by omega) (by unfold Sm; omega)
  have p0 : ∀ i : Int, 0 ≤ i % (l.length : Int) := fun i => Int.emod_nonneg _ (by omega)
  have p1 : ∀ i : Int, i % (l.length : Int) < (l.length : Int) := fun i => Int.emod_lt_of_pos _ (by omega)
  have a0 := p0 n
  have a1 := p1 n
  have a2 := p0 (n / (l.length : Int))
  have a3 := p1 (n / (l.length : Int))
  have mn := ml n
  have mn2 := ml (n / (l.length : Int))
  have b1 := BC_big
  have b2 := BB_pos
  generalize n % (l.length : Int) = i at *
  generalize n / (l.length : Int) % (l.length : Int) = j at *
  by_cases h : i = j
  · exact ⟨1, by omega, by omega, by simp [li, mn, dl, mn2, h]⟩
  · have x1 := line_ix (l := l) (k := min i j) (by omega) (by omega)
    have x2 := line_ix (l := l) (k := max i j) (by omega) (by omega)
    have rd := rate_dec hg (j := (min i j).toNat) (k := (max i j).toNat) (by omega) (by omega)
    have rl := rate_le hg (min i j).toNat
    have rp := rate_pos hg (k := (max i j).toNat) (by omega)
    have bb := mul_BB hl
    have c1 := base_bd hg hs hl (k := (min i j).toNat) (by omega)
    have c2 := base_bd hg hs hl (k := (max i j).toNat) (by omega)
    have c3 := base_nn hg (j := (min i j).toNat) (by omega)
    have c4 := base_nn hg (j := (max i j).toNat) (by omega)
    generalize base l (min i j).toNat = B1 at *
    generalize base l (max i j).toNat = B2 at *
    generalize rate l (min i j).toNat = R1 at *
    generalize rate l (max i j).toNat = R2 at *
    have dv := divC (x := B1 - B2) (y := R1 - R2) (by omega) (by omega)
    have ab := ediv_abs (a := B1 - B2) (b := R1 - R2) (B := 10000 * BC) (by omega) (by omega) (by omega) (by omega)
    refine ⟨max 1 (-((B1 - B2) / (R1 - R2))), by omega, by omega, ?_⟩
    simp [li, mn, dl, mn2, h, x1, x2, dv]
theorem grown_ok (ns : List Int) (m : Int) (h : 1 ≤ m) : ∃ g : Int, 1 ≤ g ∧ g ≤ max m 6 ∧ f_law_grown [scriptD ns, .int m] = .ok (.int g) := by
  obtain ⟨c, c0, e⟩ := number_is ns 0 (by decide) (by decide)
  rw [u_law_grown]
  unfold g_law_grown
  have d := dv_ok c 144 (by decide) (by unfold Sm; omega)
  have m6 : ∀ i : Int, sMod (.int i) (.int 6) = .ok (.int (i % 6)) := fun i => q_sMod (by decide)
  by_cases h1 : m = 1
  · by_cases h2 : 0 < ns.length
    · exact ⟨1 + c / 144 % 6, by omega, by omega, by simp [h1, h2, e, d, m6]⟩
    · exact ⟨m, by omega, by omega, by simp [h1, h2]⟩
  · exact ⟨m, by omega, by omega, by simp [h1]⟩
/-- the least of the lines -/
def LM (l : List Per) (e : Int) : Int := lmin ((List.range l.length).map fun j => V l l.length j e)
theorem LM_le {l : List Per} {e : Int} {j : Nat} (h : j < l.length) : LM l e ≤ base l j + rate l j * e := by
  rw [← line_at]
  exact lmin_map_le h
theorem LM_at {l : List Per} (e : Int) (hp : 0 < l.length) : ∃ j, j < l.length ∧ LM l e = base l j + rate l j * e := by
  obtain ⟨j, h1, h2⟩ := lmin_map_at (f := fun j => V l l.length j e) hp
  exact ⟨j, h1, by rw [← line_at]; exact h2⟩
theorem LC_LM {l : List Per} {e : Int} (h : e ≠ 0) : LC l e = LM l e := LC_pos h
theorem LC0_LM {l : List Per} (hg : Gds l) (hp : 0 < l.length) : LC l 0 ≤ LM l 0 := by
  obtain ⟨j, h1, h2⟩ := LM_at (l := l) 0 hp
  rw [h2, ← line_at]
  exact LC_le hg h1
theorem LM_concave {l : List Per} (hp : 0 < l.length) (e : Int) : LM l (e + 2) - LM l (e + 1) ≤ LM l (e + 1) - LM l e := by
  obtain ⟨j, h1, h2⟩ := LM_at (l := l) (e + 1) hp
  have a := LM_le (l := l) (e := e + 2) h1
  have b := LM_le (l := l) (e := e) h1
  rw [h2]
  have : rate l j * (e + 2) + rate l j * e = 2 * (rate l j * (e + 1)) := by grind
  omega
theorem LC_rise2 {l : List Per} (hg : Gds l) (hp : 0 < l.length) {e : Int} (he : 0 ≤ e) : LC l (e + 2) - LC l (e + 1) ≤ LC l (e + 1) - LC l e := by
  have c := LM_concave hp e
  rw [LC_LM (show e + 2 ≠ 0 by omega), LC_LM (show e + 1 ≠ 0 by omega)]
  by_cases z : e = 0
  · subst z
    have := LC0_LM hg hp
    omega
  · rw [LC_LM z]
    exact c
theorem rate_last {l : List Per} (hp : 0 < l.length) : rate l (l.length - 1) = (l.getD (l.length - 1) P0).2.2 := by
  rw [rate_succ (by omega), show l.length - 1 + 1 = l.length by omega, rate_end]
  omega
theorem rate_ge_last {l : List Per} (hg : Gds l) {j : Nat} (h : j < l.length) : rate l (l.length - 1) ≤ rate l j := by
  by_cases e : j = l.length - 1
  · rw [e]; exact Int.le_refl _
  · exact Int.le_of_lt (rate_dec hg (by omega) (by omega))
theorem LC_rise {l : List Per} (hg : Gds l) (hp : 0 < l.length) {e : Int} (he : 0 ≤ e) : rate l (l.length - 1) ≤ LC l (e + 1) - LC l e := by
  obtain ⟨j, h1, h2⟩ := LC_at (e := e + 1) hp (by omega)
  have a := LC_le hg (e := e) h1
  rw [h2, line_at]
  rw [line_at] at a
  have := rate_ge_last hg h1
  rw [Int.mul_add]
  omega
theorem LC_far {l : List Per} (hg : Gds l) (hp : 0 < l.length) {e : Int} (he : 0 < e) (h : base l (l.length - 1) ≤ e) : LC l e = base l (l.length - 1) + rate l (l.length - 1) * e := by
  rw [LC_LM (by omega)]
  refine Int.le_antisymm (LM_le (by omega)) ?_
  obtain ⟨j, h1, h2⟩ := LM_at (l := l) e hp
  rw [h2]
  by_cases q : j = l.length - 1
  · rw [q]; exact Int.le_refl _
  · have r := rate_dec hg (j := j) (k := l.length - 1) (by omega) (by omega)
    have b := base_nn hg h1
    have := Int.mul_le_mul_of_nonneg_right (show rate l (l.length - 1) + 1 ≤ rate l j by omega) (show 0 ≤ e by omega)
    rw [Int.add_mul] at this
    omega
end Lw

/-! standard_continuation; what can be forced, told with a cap or none -/
namespace Lw
open PySem Ct L2
@[simp] theorem capD_n : capD none = .none := id rfl
@[simp] theorem capD_s (c : Int) : capD (some c) = .int c := id rfl
/-- e can be forced -/
def Fo (l : List Per) (e : Int) (cap : Option Int) : Prop := match cap with
  | none => True
  | some c => e ≤ gF l c
instance (l : List Per) (e : Int) (cap : Option Int) : Decidable (Fo l e cap) := by
  unfold Fo
  cases cap <;> infer_instance
def stdC (l : List Per) (e : Int) (cap : Option Int) : List Per := if e = 0 then [] else [(e, cap.getD (LC l e + 1), 1)]
theorem greatest_cap (l : List Per) (cap : Option Int) (hg : Gds l) (hl : l.length ≤ 500) (hp : l ≠ []) : f_greatest_forced [rowsD l, capD cap] = .ok (capD (cap.map (gF l))) := by
  cases cap with
  | none => exact greatest_none l hg hp
  | some c => exact greatest_ok l c hg hl hp
theorem std_ok (l : List Per) (e : Int) (cap : Option Int) (hg : Gds l) (hl : l.length ≤ 400) (hp : l ≠ []) (he : 0 ≤ e) (he2 : e ≤ 1000000 * BC) (hf : Fo l e cap) : f_standard_continuation [rowsD l, .int e, capD cap] = .ok (rowsD (stdC l e cap)) := by
  rw [u_standard_continuation]
  unfold g_standard_continuation
  have g := greatest_cap l cap hg (by omega) hp
  have n0 : ¬ e < 0 := by omega
  by_cases h0 : e = 0
  · subst h0
    simp [g, stdC]
    rfl
  · have c := least_cost_ok l e hg (by omega) he he2 (fun _ => hp)
    cases cap with
    | none =>
      simp at g
      simp [g, n0, h0, c, stdC]
    | some x =>
      have hf : e ≤ gF l x := hf
      have h1 : ¬ gF l x < e := by omega
      simp at g
      generalize gF l x = G at *
      simp [g, n0, h0, stdC, h1]
theorem std_neg (l : List Per) (e : Int) (cap : Option Int) (hg : Gds l) (hl : l.length ≤ 400) (hp : l ≠ []) (he : e < 0) : f_standard_continuation [rowsD l, .int e, capD cap] = .exc ⟨7, []⟩ := by
  rw [u_standard_continuation]
  unfold g_standard_continuation
  have g := greatest_cap l cap hg (by omega) hp
  simp [g, he]
theorem std_no (d d2 : D) : f_standard_continuation [rowsD [], d, d2] = .exc ⟨2, []⟩ := by
  rw [u_standard_continuation]
  unfold g_standard_continuation
  have g := greatest_no d2
  simp [g]
theorem std_far (l : List Per) (e : Int) (cap : Option Int) (hg : Gds l) (hl : l.length ≤ 400) (hp : l ≠ []) (he : 0 < e) (hf : ¬ Fo l e cap) : f_standard_continuation [rowsD l, .int e, capD cap] = .exc ⟨8, []⟩ := by
  rw [u_standard_continuation]
  unfold g_standard_continuation
  cases cap with
  | none => exact absurd trivial hf
  | some x =>
    have hf : ¬ e ≤ gF l x := hf
    have g := greatest_ok l x hg (by omega) hp
    have n0 : ¬ e < 0 := by omega
    have n1 : ¬ e = 0 := by omega
    have h1 : gF l x < e := by omega
    generalize gF l x = G at *
    simp [g, n0, n1, h1]
theorem forced_ok (l : List Per) (e : Int) (cap : Option Int) (hg : Gds l) (hl : l.length ≤ 400) (hp : l ≠ []) (he : 0 ≤ e) (he2 : e ≤ 1000000 * BC) : f_law_forced [rowsD l, .int e, capD cap] = .ok (.bool (decide (Fo l e cap))) := by
  rw [u_law_forced]
  unfold g_law_forced
  have hpl := List.length_pos_iff.mpr hp
  cases cap with
  | none =>
    simp [Fo]
    exact decide_eq_true trivial
  | some c =>
    by_cases h0 : e = 0
    · subst h0
      have := gF_nn l c
      simp [Fo, this]
    · have le := law_least_ok l e hg hl he he2 (fun _ => hp)
      have lc := law_costs_ok l hg (by omega)
      have cl := costs_last l
      have fi := forced_iff hg hpl (e := e) (cap := c) (by omega)
      rw [LC_zero] at fi
      have : decide (Fo l e (some c)) = decide (LC l e < C l l.length + c) := decide_eq_decide.mpr fi.symm
      rw [this]
      generalize LC l e = A at *
      generalize C l l.length = B at *
      simp [h0, le, lc, cl]
theorem edge_ok (l : List Per) (cap : Int) (hg : Gds l) (hs : Sml l) (hl : l.length ≤ 64) (hp : l ≠ []) : f_law_edge [rowsD l, .int cap] = .ok (.int (gF l cap)) := by
  rw [u_law_edge]
  unfold g_law_edge
  have b1 := BC_big
  have b2 := BB_pos
  have lc := law_costs_ok l hg (by omega)
  have cl := costs_last l
  have li := law_lines_ok l hg (by omega)
  have z : C l l.length = LC l 0 := (LC_zero l).symm
  rw [z] at cl
  have cc : c_law_edge_1 [.va (rowsD l), .va (.int cap), .va (.int (LC l 0 + cap - 1)), .un, .un] = .ok (intsL ((List.range l.length).map fun j => (LC l 0 + cap - 1 - base l j) / rate l j)) := by
    unfold c_law_edge_1
    have := comp_list (vs := [3, 4]) (f := iLst (fCall f_law_lines (aCons (fV 0) aNil))) (tg := tgT [(tgN 3), (tgN 4)]) (e := fBin sDiv (fBin sSub (fV 2) (fV 3)) (fV 4)) (ρ := [.va (rowsD l), .va (.int cap), .va (.int (LC l 0 + cap - 1)), .un, .un]) (lineD l) (fun j => PyData.int ((LC l 0 + cap - 1 - base l j) / rate l j)) (List.range l.length) (by simp; omega) (by simp [li, linesD]) rfl fun j hj => by
      have hj := List.mem_range.mp hj
      have r1 := rate_pos hg hj
      have r2 := rate_le hg j
      have r3 := mul_BB hl
      have dv := divC (x := LC l 0 + cap - 1 - base l j) r1 (by omega)
      exact ⟨_, rfl, by simp [dv]⟩
    rw [this]
    unfold intsL
    rw [List.map_map]
    rfl
  have mx := max_ints (o := 0 :: (List.range l.length).map fun j => (LC l 0 + cap - 1 - base l j) / rate l j) (by simp)
  have ad : sAdd (.list [.int 0]) (intsL ((List.range l.length).map fun j => (LC l 0 + cap - 1 - base l j) / rate l j)) = .ok (intsL (0 :: (List.range l.length).map fun j => (LC l 0 + cap - 1 - base l j) / rate l j)) := by
    have hz : [PyData.int 0].length + (((List.range l.length).map fun j => (LC l 0 + cap - 1 - base l j) / rate l j).map PyData.int).length ≤ sizeLine := le_size (by simp; omega)
    unfold intsL sAdd
    dsimp only
    rw [if_pos hz]
    rfl
  unfold gF
  generalize ((List.range l.length).map fun j => (LC l 0 + cap - 1 - base l j) / rate l j) = Q at *
  generalize LC l 0 = A at *
  simp [lc, cl, cc, ad, mx]
end Lw

namespace Lw
open PySem Ct L2
theorem add_D {a b : List D} (h : a.length + b.length ≤ 1000) : sAdd (.list a) (.list b) = .ok (.list (a ++ b)) := by
  unfold sAdd
  dsimp only
  rw [if_pos (le_size h)]
/-- what is due -/
def dueV (l : List Per) (e : Int) (cap : Option Int) : D := if l = [] then .tuple [.int 3, .bool true] else if e < 0 then .tuple [.int 1, .bool true] else if Fo l e cap then .tuple [.int 0, rowsD (stdC l e cap)] else .tuple [.int 2, .bool true]
theorem Fo_zero (l : List Per) (cap : Option Int) : Fo l 0 cap := by
  cases cap with
  | none => exact trivial
  | some c => exact gF_nn l c
theorem due_ok (l : List Per) (e : Int) (cap : Option Int) (hg : Gds l) (hl : l.length ≤ 400) (he2 : e ≤ 1000000 * BC) : f_law_due_k12 [rowsD l, .int e, capD cap] = .ok (dueV l e cap) := by
  rw [u_law_due_k12]
  unfold g_law_due_k12 dueV
  by_cases h0 : l = []
  · subst h0
    simp
  · have h0' : ¬ l.length = 0 := fun z => h0 (List.eq_nil_of_length_eq_zero z)
    by_cases h1 : e < 0
    · simp [h0, h0', h1]
    · by_cases h2 : e = 0
      · subst h2
        have := Fo_zero l cap
        simp [h0, h0', h1, this, stdC]
        rfl
      · have f := forced_ok l e cap hg hl h0 (by omega) he2
        have c := law_least_ok l e hg hl (by omega) he2 (fun _ => h0)
        by_cases h3 : Fo l e cap
        · cases cap with
          | none =>
            simp [h3] at f
            simp [h0, h0', h1, h2, h3, f, c, stdC]
          | some x =>
            simp [h3] at f
            simp [h0, h0', h1, h2, h3, f, c, stdC]
        · simp [h3] at f
          simp [h0, h0', h1, h2, h3, f, c]
theorem told_ok (l : List Per) (e : Int) (cap : Option Int) (b : Bool) (hb : b = true ∨ cap = none) (hg : Gds l) (hl : l.length ≤ 400) (he2 : e ≤ 1000000 * BC) : f_law_told_k12 [rowsD l, .int e, capD cap, .bool b] = .ok (dueV l e cap) := by
  rw [u_law_told_k12]
  unfold g_law_told_k12 dueV
  have hb2 : b = false → capD cap = .none := by
    intro h
    rcases hb with z | z
    · rw [h] at z; cases z
    · rw [z]; rfl
  by_cases h0 : l = []
  · subst h0
    have c := std_no (.int e) (capD cap)
    rw [try_exc (er := ⟨2, []⟩) (ρ1 := [.va (rowsD []), .va (.int e), .va (capD cap), .va (.bool b), .un, .un, .un, .un, .un]) (by
      cases b with
      | true => simp [c]
      | false => rw [hb2 rfl] at c; simp [c]), q_hf (by rfl), q_hf (by rfl), q_ht (by rfl)]
    simp
  · rw [if_neg h0]
    by_cases h1 : e < 0
    · have c := std_neg l e cap hg hl h0 h1
      rw [try_exc (er := ⟨7, []⟩) (ρ1 := [.va (rowsD l), .va (.int e), .va (capD cap), .va (.bool b), .un, .un, .un, .un, .un]) (by
        cases b with
        | true => simp [c]
        | false => rw [hb2 rfl] at c; simp [c]), q_ht (by rfl)]
      simp [h1]
    · rw [if_neg h1]
      by_cases h2 : Fo l e cap
      · have c := std_ok l e cap hg hl h0 (by omega) he2 h2
        rw [if_pos h2]
        generalize stdC l e cap = S at *
        rw [try_ret (d := .tuple [.int 0, rowsD S]) (by
          cases b with
          | true => simp [c]
          | false => rw [hb2 rfl] at c; simp [c])]
        simp
      · have he : 0 < e := by
          by_cases z : e = 0
          · subst z; exact absurd (Fo_zero l cap) h2
          · omega
        have c := std_far l e cap hg hl h0 he h2
        rw [if_neg h2]
        rw [try_exc (er := ⟨8, []⟩) (ρ1 := [.va (rowsD l), .va (.int e), .va (capD cap), .va (.bool b), .un, .un, .un, .un, .un]) (by
          cases b with
          | true => simp [c]
          | false => rw [hb2 rfl] at c; simp [c]), q_hf (by rfl), q_ht (by rfl)]
        have ni : sNotIn (.bool true) (.list [.bool false, .bool false, .bool false, .bool false, .bool false, .bool false, .bool false, .bool false, .bool false, .bool false]) = .ok (.bool true) := by rfl
        simp [add_D, ni]
theorem stdC_len (l : List Per) (e : Int) (cap : Option Int) : (stdC l e cap).length ≤ 1 := by
  unfold stdC
  split <;> simp
theorem pl_due (l : List Per) (e : Int) (cap : Option Int) : PlN 3 (dueV l e cap) := by
  unfold dueV
  split
  · simp [PlN]
  · split
    · simp [PlN]
    · split
      · have := pl_rows (stdC l e cap) (by have := stdC_len l e cap; omega)
        generalize rowsD (stdC l e cap) = S at *
        simp [PlN] at *
        exact this
      · simp [PlN]
/-- the answer, changed or not -/
theorem turn_ok (l : List Per) (e : Int) (cap : Option Int) (hg : Gds l) (hl : l.length ≤ 400) (he2 : e ≤ 1000000 * BC) (s5 s6 s7 : Sl) : ∃ t6 t7, b_law_right_k12_1 [.va (rowsD l), .va (.int e), .va (capD cap), .va (dueV l e cap), .va (rowsD l), s5, s6, s7] = .nx [.va (rowsD l), .va (.int e), .va (capD cap), .va (dueV l e cap), .va (rowsD l), s5, t6, t7] := by
  have t := told_ok l e cap true (Or.inl rfl) hg hl he2
  have s := same_pl 3 (pl_due l e cap)
  have r := same_rows l (by omega)
  unfold b_law_right_k12_1
  unfold dueV at *
  have ln := stdC_len l e cap
  split at t
  · rename_i h
    rw [if_pos h] at s ⊢
    simp [t, s, r]
  · rename_i h
    rw [if_neg h] at s ⊢
    split at t
    · rename_i h1
      rw [if_pos h1] at s ⊢
      simp [t, s, r]
    · rename_i h1
      rw [if_neg h1] at s ⊢
      split at t
      · rename_i h2
        rw [if_pos h2] at s ⊢
        generalize stdC l e cap = S at *
        have hz : S.length < sizeLine := lt_size (by omega)
        have tk : fTake 7 6 (fC (.int 1)) [.va (rowsD l), .va (.int e), .va (capD cap), .va (.tuple [.int 0, rowsD S]), .va (rowsD l), s5, .ot (.c .g (.r (.r .g))) (.tuple [.int 0, rowsD S]), s7] = .nx [.va (rowsD l), .va (.int e), .va (capD cap), .va (.tuple [.int 0, rowsD S]), .va (rowsD l), s5, .ot (.c .g (.c .x (.r (.r .g)))) (.tuple [.int 0, rowsD S]), .ow (S.map pd)] := by
          rw [take_ok (k := .c .g (.r (.r .g))) (d := .tuple [.int 0, rowsD S]) (d' := rowsD S) (ds := [.int 0, rowsD S]) (n := 1) rfl rfl rfl rfl rfl (by decide)]
          rfl
        refine ⟨.ot (.c .g (.c .x (.r (.r .g)))) (.tuple [.int 0, rowsD S]), .ow (S.map pd ++ [.tuple [.int 1, .int 1, .int 1]]), ?_⟩
        simp [t, s, r, tk, mAppend, hz]
      · rename_i h2
        rw [if_neg h2] at s ⊢
        simp [t, s, r]
theorem right_ok (l : List Per) (e : Int) (cap : Option Int) (hg : Gds l) (hl : l.length ≤ 400) (he2 : e ≤ 1000000 * BC) : f_law_right_k12 [rowsD l, .int e, capD cap] = .ok (.bool true) := by
  rw [u_law_right_k12]
  unfold g_law_right_k12
  have d := due_ok l e cap hg hl he2
  have s := same_pl 3 (pl_due l e cap)
  have r := same_rows l (by omega)
  obtain ⟨t6, t7, b1⟩ := turn_ok l e cap hg hl he2 (.va (.int 0)) .un .un
  obtain ⟨u6, u7, b2⟩ := turn_ok l e cap hg hl he2 (.va (.int 1)) t6 t7
  cases cap with
  | none =>
    have t := told_ok l e none false (Or.inr rfl) hg hl he2
    generalize dueV l e none = dv at *
    simp at d t b1 b2
    simp [d, loopS, b1, b2, s, r, t]
  | some c =>
    generalize dueV l e (some c) = dv at *
    simp at d b1 b2
    simp [d, loopS, b1, b2, s, r]
theorem final_ok (l : List Per) (cap : Option Int) (n : Int) (hg : Gds l) (hs : Sml l) (hl : l.length ≤ 64) (hp : l ≠ []) (hc : ∀ x, cap = some x → 0 ≤ x ∧ x ≤ 6000 * BC) : ∃ e : Int, 0 ≤ e ∧ e ≤ 12000 * BC ∧ f_law_final_k12 [rowsD l, capD cap, .int n] = .ok (.int e) := by
  rw [u_law_final_k12]
  unfold g_law_final_k12
  have b1 := BC_big
  have b2 := BB_pos
  have b3 := BB_le 60
  have d := dv_ok n 8 (by decide) (by unfold Sm; omega)
  have m8 : sMod (.int n) (.int 8) = .ok (.int (n % 8)) := q_sMod (by decide)
  have m5 : ∀ i : Int, sMod (.int i) (.int 6) = .ok (.int (i % 6)) := fun i => q_sMod (by decide)
  have m6 : ∀ i : Int, sMod (.int i) (.int 500) = .ok (.int (i % 500)) := fun i => q_sMod (by decide)
  have m7 : ∀ i : Int, sMod (.int i) (.int 1000000000000000000000000000000000000000000000000000000000000) = .ok (.int (i % 1000000000000000000000000000000000000000000000000000000000000)) := fun i => q_sMod (by decide)
  have w0 := Int.emod_nonneg n (show (8 : Int) ≠ 0 by decide)
  have w1 := Int.emod_lt_of_pos n (show (0 : Int) < 8 by decide)
  generalize n % 8 = w at *
  have rest : ¬ (w < 4 ∧ cap ≠ none) → ∃ e : Int, 0 ≤ e ∧ e ≤ 12000 * BC ∧ e = (if w = 4 then 0 else if w = 5 then n / 8 % 6 else if w = 6 then n / 8 % 500 else n / 8 % 1000000000000000000000000000000000000000000000000000000000000) := fun _ => by
    refine ⟨_, ?_, ?_, rfl⟩
    · split
      · omega
      · split
        · omega
        · split <;> omega
    · split
      · omega
      · split
        · omega
        · split <;> omega
  cases cap with
  | none =>
    obtain ⟨e, e0, e1, e2⟩ := rest (by simp)
    refine ⟨e, e0, e1, ?_⟩
    by_cases h4 : w = 4
    · rw [if_pos h4] at e2; simp [d, m8, h4, e2]
    · rw [if_neg h4] at e2
      by_cases h5 : w = 5
      · rw [if_pos h5] at e2; simp [d, m8, h5, m5, e2]
      · rw [if_neg h5] at e2
        by_cases h6 : w = 6
        · rw [if_pos h6] at e2; simp [d, m8, h6, m6, e2]
        · rw [if_neg h6] at e2
          simp [d, m8, h4, h5, h6, m7, e2]
  | some c =>
    obtain ⟨c0, c1⟩ := hc c rfl
    by_cases h : w < 4
    · have ed := edge_ok l c hg hs hl hp
      have g0 := gF_nn l c
      have g1 := gF_le hg c0
      have bd := LC_bd hg hs hl (Int.le_refl 0) (by omega)
      generalize gF l c = G at *
      exact ⟨max 0 (G - 1 + w), by omega, by omega, by simp [d, m8, h, ed]⟩
    · obtain ⟨e, e0, e1, e2⟩ := rest (fun z => h z.1)
      refine ⟨e, e0, e1, ?_⟩
      by_cases h4 : w = 4
      · rw [if_pos h4] at e2; simp [d, m8, h4, e2]
      · rw [if_neg h4] at e2
        by_cases h5 : w = 5
        · rw [if_pos h5] at e2; simp [d, m8, h5, m5, e2]
        · rw [if_neg h5] at e2
          by_cases h6 : w = 6
          · rw [if_pos h6] at e2; simp [d, m8, h6, m6, e2]
          · rw [if_neg h6] at e2
            simp [d, m8, h, h4, h5, h6, m7, e2]
theorem law_true (ns : List Int) (h : ns.length ≤ 63) (hb : ∀ z ∈ ns, Builtin.Int.intBits z ≤ 1048576) : f_law [scriptD ns] = .ok (.bool true) := by
  obtain ⟨sc, kn, la, h1, h2, h3, h4, h5, e1⟩ := shape_is ns 30 (by decide)
  obtain ⟨c, c0, e2⟩ := number_is ns 3 (by decide) (by decide)
  obtain ⟨c2, c20, e3⟩ := number_is ns 2 (by decide) (by decide)
  have d7 := dv_ok c 7 (by decide) (by unfold Sm; omega)
  have m7 : ∀ i : Int, sMod (.int i) (.int 7) = .ok (.int (i % 7)) := fun i => q_sMod (by decide)
  have m8 : ∀ i : Int, sMod (.int i) (.int 8) = .ok (.int (i % 8)) := fun i => q_sMod (by decide)
  obtain ⟨cnt, hcnt⟩ : ∃ x : Int, x = min 30 (kn + c % 7) := ⟨_, rfl⟩
  have hc1 : 1 ≤ cnt ∧ cnt ≤ 30 := by omega
  obtain ⟨l, hl, hg, e4⟩ := periods_is ns 4 cnt sc (by decide) (by decide) (by omega) (by omega) h1 h2
  obtain ⟨n, rfl⟩ := Int.eq_ofNat_of_zero_le (show 0 ≤ cnt by omega)
  rw [Int.toNat_natCast] at hl
  have ml : sMod (.int (c / 7 / 8)) (.int ((n : Int) + 1)) = .ok (.int (c / 7 / 8 % ((n : Int) + 1))) := q_sMod (by omega)
  have p0 : 0 ≤ c / 7 / 8 % ((n : Int) + 1) := Int.emod_nonneg _ (by omega)
  have p1 : c / 7 / 8 % ((n : Int) + 1) < (n : Int) + 1 := Int.emod_lt_of_pos _ (by omega)
  have dq := dv_ok (c / 7) 8 (by decide) (by unfold Sm; omega)
  generalize c / 7 / 8 % ((n : Int) + 1) = w at *
  obtain ⟨k, rfl⟩ := Int.eq_ofNat_of_zero_le p0
  have qk := quiet_ok l k (by omega) (by omega)
  obtain ⟨l3, hl3⟩ : ∃ x : List Per, x = (if c / 7 % 8 = 0 then quiet l k else l) := ⟨_, rfl⟩
  have l3g : Gds l3 ∧ Sml l3 ∧ l3.length = n := by
    rw [hl3]
    split
    · exact ⟨quiet_gds (Gds.of hg) k, quiet_sml (Sml.of hg) k, by rw [quiet_len l k (by omega)]; exact hl⟩
    · exact ⟨Gds.of hg, Sml.of hg, hl⟩
  obtain ⟨g3, s3, n3⟩ := l3g
  have p3 : l3 ≠ [] := fun z => by rw [z] at n3; simp at n3; omega
  obtain ⟨cp, hcp, e5⟩ := cap_is ns sc h1 h2
  have b1 := BC_big
  have b2 := BB_pos
  have hc3 : ∀ x, cp = some x → 0 ≤ x ∧ x ≤ 6000 * BC := fun x hx => by have := hcp x hx; have := BB_le 60; omega
  obtain ⟨e, he0, he1, e6⟩ := final_ok l3 cp c2 g3 s3 (by omega) p3 hc3
  have gn : Gds [] := fun x hx => by cases hx
  have r1 := right_ok l3 e cp g3 (by omega) (by omega)
  have r2 := right_ok l3 (-1 - e) cp g3 (by omega) (by omega)
  have r3 := right_ok l3 e none g3 (by omega) (by omega)
  have r4 := right_ok l3 0 cp g3 (by omega) (by omega)
  have r5 := right_ok [] e cp gn (by simp) (by omega)
  have r6 := right_ok [] (-1 - e) cp gn (by simp) (by omega)
  have n0 : PyData.list [] = rowsD [] := rfl
  rw [u_law]
  unfold g_law
  simp at r3
  simp [↓q_ifAsgD, if_rows, e1, e2, m7, ← hcnt, e4, d7, m8, dq, ml, qk, ← hl3, e5, e3, e6, r1, r2, r3, r4, n0, r5, r6]
end Lw

namespace Lw
open PySem PySem.Spec PyProof.Rows L2 Ct
abbrev topS (i : Nat) : Stmt := PySem.Challenge.pw_laterwants_k12_standard_continuation.main.body.getD i (.Pass ⟨0, 0, 0, 0⟩)
structure Bl (mg : Str → Option Value) : Prop where
  b_ValueError : mg "ValueError" = none
  b_abs : mg "abs" = none
  b_bool : mg "bool" = none
  b_enumerate : mg "enumerate" = none
  b_int : mg "int" = none
  b_isinstance : mg "isinstance" = none
  b_len : mg "len" = none
  b_list : mg "list" = none
  b_max : mg "max" = none
  b_min : mg "min" = none
  b_range : mg "range" = none
  b_reversed : mg "reversed" = none
  b_sum : mg "sum" = none
  b_tuple : mg "tuple" = none
structure Tx (prog : Program) (K : PySem.W.Frag) (mg : Str → Option Value) (ca : Nat → Addr) : Prop where
  gm_InvalidPeriod : mg "InvalidPeriod" = some (.ref (ca 0))
  x_InvalidPeriod : ExF prog K mg (ca 0) "InvalidPeriod" ["index"]
  gm_SetupAboveCap : mg "SetupAboveCap" = some (.ref (ca 1))
  x_SetupAboveCap : ExF prog K mg (ca 1) "SetupAboveCap" ["index"]
  gm_NoPeriods : mg "NoPeriods" = some (.ref (ca 2))
  q_NoPeriods : PySem.W.excIn K (ca 2) [.type "ValueError", .type "Exception", .type "BaseException", .type "object"] "ValueError.__new__" = true
  kp_NoPeriods : PySem.W.keepIn K (.ref (ca 2)) = true
  sb_NoPeriods : PySem.W.subIn K (.ref (ca 2)) (.type "BaseException") = some true
  ty_NoPeriods : PySem.W.typeIn K (.ref (ca 2)) = some (.type "type")
  gm_TooManyOrders : mg "TooManyOrders" = some (.ref (ca 3))
  q_TooManyOrders : PySem.W.excIn K (ca 3) [.type "ValueError", .type "Exception", .type "BaseException", .type "object"] "ValueError.__new__" = true
  kp_TooManyOrders : PySem.W.keepIn K (.ref (ca 3)) = true
  sb_TooManyOrders : PySem.W.subIn K (.ref (ca 3)) (.type "BaseException") = some true
  ty_TooManyOrders : PySem.W.typeIn K (.ref (ca 3)) = some (.type "type")
  gm_InvalidOrder : mg "InvalidOrder" = some (.ref (ca 4))
  x_InvalidOrder : ExF prog K mg (ca 4) "InvalidOrder" ["index"]
  gm_Shortage : mg "Shortage" = some (.ref (ca 5))
  x_Shortage : ExF prog K mg (ca 5) "Shortage" ["index", "amount"]
  gm_Excess : mg "Excess" = some (.ref (ca 6))
  x_Excess : ExF prog K mg (ca 6) "Excess" ["amount"]
  gm_InvalidEnding : mg "InvalidEnding" = some (.ref (ca 7))
  q_InvalidEnding : PySem.W.excIn K (ca 7) [.type "ValueError", .type "Exception", .type "BaseException", .type "object"] "ValueError.__new__" = true
  kp_InvalidEnding : PySem.W.keepIn K (.ref (ca 7)) = true
  sb_InvalidEnding : PySem.W.subIn K (.ref (ca 7)) (.type "BaseException") = some true
  ty_InvalidEnding : PySem.W.typeIn K (.ref (ca 7)) = some (.type "type")
  gm_NotForced : mg "NotForced" = some (.ref (ca 8))
  q_NotForced : PySem.W.excIn K (ca 8) [.type "ValueError", .type "Exception", .type "BaseException", .type "object"] "ValueError.__new__" = true
  kp_NotForced : PySem.W.keepIn K (.ref (ca 8)) = true
  sb_NotForced : PySem.W.subIn K (.ref (ca 8)) (.type "BaseException") = some true
  ty_NotForced : PySem.W.typeIn K (.ref (ca 8)) = some (.type "type")
  gm_NotSafe : mg "NotSafe" = some (.ref (ca 9))
  x_NotSafe : ExF prog K mg (ca 9) "NotSafe" ["continuation"]
  gm_Finished : mg "Finished" = some (.ref (ca 10))
  q_Finished : PySem.W.excIn K (ca 10) [.type "ValueError", .type "Exception", .type "BaseException", .type "object"] "ValueError.__new__" = true
  kp_Finished : PySem.W.keepIn K (.ref (ca 10)) = true
  sb_Finished : PySem.W.subIn K (.ref (ca 10)) (.type "BaseException") = some true
  ty_Finished : PySem.W.typeIn K (.ref (ca 10)) = some (.type "type")
  gm_PlanError : mg "PlanError" = some (.ref (ca 11))
  ec_NoPeriods : ExcC K (ca 2)
  ec_InvalidEnding : ExcC K (ca 7)
  ec_NotForced : ExcC K (ca 8)
  kt_InvalidEnding_NoPeriods : PySem.W.kitOne K (.ref (ca 7)) (.ref (ca 2)) = some false
  kt_InvalidEnding_NotForced : PySem.W.kitOne K (.ref (ca 7)) (.ref (ca 8)) = some false
  kt_InvalidEnding_PlanError : PySem.W.kitOne K (.ref (ca 7)) (.ref (ca 11)) = some true
  kt_InvalidEnding_ValueError : PySem.W.kitOne K (.ref (ca 7)) (.type "ValueError") = some true
  kt_NoPeriods_PlanError : PySem.W.kitOne K (.ref (ca 2)) (.ref (ca 11)) = some true
  kt_NoPeriods_ValueError : PySem.W.kitOne K (.ref (ca 2)) (.type "ValueError") = some true
  kt_NotForced_Excess : PySem.W.kitOne K (.ref (ca 8)) (.ref (ca 6)) = some false
  kt_NotForced_Finished : PySem.W.kitOne K (.ref (ca 8)) (.ref (ca 10)) = some false
  kt_NotForced_InvalidEnding : PySem.W.kitOne K (.ref (ca 8)) (.ref (ca 7)) = some false
  kt_NotForced_InvalidOrder : PySem.W.kitOne K (.ref (ca 8)) (.ref (ca 4)) = some false
  kt_NotForced_InvalidPeriod : PySem.W.kitOne K (.ref (ca 8)) (.ref (ca 0)) = some false
  kt_NotForced_NoPeriods : PySem.W.kitOne K (.ref (ca 8)) (.ref (ca 2)) = some false
  kt_NotForced_NotSafe : PySem.W.kitOne K (.ref (ca 8)) (.ref (ca 9)) = some false
  kt_NotForced_PlanError : PySem.W.kitOne K (.ref (ca 8)) (.ref (ca 11)) = some true
  kt_NotForced_SetupAboveCap : PySem.W.kitOne K (.ref (ca 8)) (.ref (ca 1)) = some false
  kt_NotForced_Shortage : PySem.W.kitOne K (.ref (ca 8)) (.ref (ca 5)) = some false
  kt_NotForced_TooManyOrders : PySem.W.kitOne K (.ref (ca 8)) (.ref (ca 3)) = some false
  kt_NotForced_ValueError : PySem.W.kitOne K (.ref (ca 8)) (.type "ValueError") = some true
  sub : SubOk K ca SB
abbrev s_check_periods : Stmt := topS 14
abbrev N_check_periods : List Str := ["periods", "cap", "index", "demand", "setup", "hold"]
theorem sc_check_periods : FnScope N_check_periods ["periods", "cap"] (defScope s_check_periods) := ⟨rfl, rfl, rfl, by decide +kernel, rfl, by decide +kernel, by decide +kernel⟩
theorem ok_check_periods {P : Program} {w : World} {K : PySem.W.Frag} {mg : Str → Option Value} {base : Heap} {ca : Nat → Addr} {a : Addr} {fd : FuncData} (F : Fun K "check_periods" "check_periods" s_check_periods a fd) (B : Bl mg) (T : Tx P K mg ca)  : FnOk P w K mg base (L2.CX P w) 1 a fd ["periods", "cap"] (SpF ca cfG .e 2 f_check_periods) :=
  fn_body F sc_check_periods fun cdv A outer s H E hr => by
    have hu := hr.units
    have tk0 := tk_of (P := P) (w := w) (K := K) (mg := mg) (base := base) (N := N_check_periods) (qual := "check_periods") (sc := defScope s_check_periods) (f := a) (cd := cdv) (A := A) (outer := outer) (s := s) (H := H) (E := E)
    have pa0 := pa_of (P := P) (w := w) (K := K) (mg := mg) (base := base) (N := N_check_periods) (qual := "check_periods") (sc := defScope s_check_periods) (f := a) (cd := cdv) (A := A) (outer := outer) (s := s) (H := H) (E := E)
    exact (xss_cons (xs_for (fun _ _ _ hi hg hb => ps_for pa0 rfl hi hg hb) (xi_enum (fun _ h => pi_enum rfl B.b_enumerate (pa_cons h pa_nil)) (xv 0)) (xg_tup (fun _ h => pg_tup rfl h) rfl (xgs_cons (xg_name 2 (pg_name (i := 2) sc_check_periods.nd rfl (by first | exact Or.inl rfl | exact Or.inr rfl))) (xgs_cons (xg_tup (fun _ h => pg_tup rfl h) rfl (xgs_cons (xg_name 3 (pg_name (i := 3) sc_check_periods.nd rfl (by first | exact Or.inl rfl | exact Or.inr rfl))) (xgs_cons (xg_name 4 (pg_name (i := 4) sc_check_periods.nd rfl (by first | exact Or.inl rfl | exact Or.inr rfl))) (xgs_cons (xg_name 5 (pg_name (i := 5) sc_check_periods.nd rfl (by first | exact Or.inl rfl | exact Or.inr rfl))) xgs_nil)))) xgs_nil)))
  (xss_one (xs_if (XW.pt (wor (tlt (xv 3) xi) (wor (tlt (xv 4) xi) (wor1 (tlt (xv 5) xi)))))
  (xss_one (xs_raiseX rfl tk0 T.x_InvalidPeriod rfl hr (ae_cons (xv 2) ae_nil) rfl (by show 1 ≤ sizeLine; decide) (al1 al0)))
  xss_nil)))
  (xss_one (xs_if (tnotn (XX.e_b (xv 1)))
  (xss_one (xs_for (fun _ _ _ hi hg hb => ps_for pa0 rfl hi hg hb) (xi_enum (fun _ h => pi_enum rfl B.b_enumerate (pa_cons h pa_nil)) (xv 0)) (xg_tup (fun _ h => pg_tup rfl h) rfl (xgs_cons (xg_name 2 (pg_name (i := 2) sc_check_periods.nd rfl (by first | exact Or.inl rfl | exact Or.inr rfl))) (xgs_cons (xg_tup (fun _ h => pg_tup rfl h) rfl (xgs_cons (xg_name 3 (pg_name (i := 3) sc_check_periods.nd rfl (by first | exact Or.inl rfl | exact Or.inr rfl))) (xgs_cons (xg_name 4 (pg_name (i := 4) sc_check_periods.nd rfl (by first | exact Or.inl rfl | exact Or.inr rfl))) (xgs_cons (xg_name 5 (pg_name (i := 5) sc_check_periods.nd rfl (by first | exact Or.inl rfl | exact Or.inr rfl))) xgs_nil)))) xgs_nil)))
  (xss_one (xs_if (tgt (xv 4) (xv 1))
  (xss_one (xs_raiseX rfl tk0 T.x_SetupAboveCap rfl hr (ae_cons (xv 2) ae_nil) rfl (by show 1 ≤ sizeLine; decide) (al1 al0)))
  xss_nil))))
  xss_nil)))
abbrev s_last_costs : Stmt := topS 16
abbrev N_last_costs : List Str := ["periods", "costs", "count", "ending", "result", "carried", "holding", "start", "demand", "setup", "hold"]
theorem sc_last_costs : FnScope N_last_costs ["periods", "costs", "count", "ending"] (defScope s_last_costs) := ⟨rfl, rfl, rfl, by decide +kernel, rfl, by decide +kernel, by decide +kernel⟩
theorem ok_last_costs {P : Program} {w : World} {K : PySem.W.Frag} {mg : Str → Option Value} {base : Heap} {ca : Nat → Addr} {a : Addr} {fd : FuncData} (F : Fun K "last_costs" "last_costs" s_last_costs a fd) (B : Bl mg) (T : Tx P K mg ca)  : FnOk P w K mg base (L2.CX P w) 1 a fd ["periods", "costs", "count", "ending"] (SpF ca cfG .e 4 f_last_costs) :=
  fn_body F sc_last_costs fun cdv A outer s H E hr => by
    have hu := hr.units
    have tk0 := tk_of (P := P) (w := w) (K := K) (mg := mg) (base := base) (N := N_last_costs) (qual := "last_costs") (sc := defScope s_last_costs) (f := a) (cd := cdv) (A := A) (outer := outer) (s := s) (H := H) (E := E)
    have pa0 := pa_of (P := P) (w := w) (K := K) (mg := mg) (base := base) (N := N_last_costs) (qual := "last_costs") (sc := defScope s_last_costs) (f := a) (cd := cdv) (A := A) (outer := outer) (s := s) (H := H) (E := E)
    exact (xss_cons (xs_setO (fun _ h => ps_set (i := 4) sc_last_costs.nd rfl (by first | exact Or.inl rfl | exact Or.inr rfl) h) (xrep (XX.o_e (xlst (ae_cons xi ae_nil))) (xv 2)))
  (xss_cons (xs_set (fun _ h => ps_set (i := 5) sc_last_costs.nd rfl (by first | exact Or.inl rfl | exact Or.inr rfl) h) (xv 3))
  (xss_cons (xs_set (fun _ h => ps_set (i := 6) sc_last_costs.nd rfl (by first | exact Or.inl rfl | exact Or.inr rfl) h) xi)
  (xss_cons (xs_for (fun _ _ _ hi hg hb => ps_for pa0 rfl hi hg hb) (xi_revR (fun _ h => pi_revR rfl B.b_reversed (prg_1 rfl B.b_range h)) (xv 2)) (xg_name 7 (pg_name (i := 7) sc_last_costs.nd rfl (by first | exact Or.inl rfl | exact Or.inr rfl)))
  (xss_cons (xs_asgT (fun _ _ h1 h2 => ps_asg h1 h2) (xix (XX.e_s (xv 0)) (xv 7)) (xg_tup (fun _ h => pg_tup rfl h) rfl (xgs_cons (xg_name 8 (pg_name (i := 8) sc_last_costs.nd rfl (by first | exact Or.inl rfl | exact Or.inr rfl))) (xgs_cons (xg_name 9 (pg_name (i := 9) sc_last_costs.nd rfl (by first | exact Or.inl rfl | exact Or.inr rfl))) (xgs_cons (xg_name 10 (pg_name (i := 10) sc_last_costs.nd rfl (by first | exact Or.inl rfl | exact Or.inr rfl))) xgs_nil)))))
  (xss_cons (xs_augAdd (fun _ h => ps_aug (i := 6) sc_last_costs.nd rfl (by first | exact Or.inl rfl | exact Or.inr rfl) h ip_add) (xmul (xv 10) (xv 5)))
  (xss_cons (xs_augAdd (fun _ h => ps_aug (i := 5) sc_last_costs.nd rfl (by first | exact Or.inl rfl | exact Or.inr rfl) h ip_add) (xv 8))
  (xss_one (xs_setItem (i := 4) (fun _ _ h1 h2 => ps_asg h1 (pg_sub (pv 4) h2 set_list)) (xadd (xadd (xix (XX.e_s (xv 1)) (xv 7)) (xv 9)) (xv 6)) (xv 7)))))))
  (xss_one (xs_fz 4 (xs_ret (xv 4))))))))
abbrev s_least_costs : Stmt := topS 17
abbrev N_least_costs : List Str := ["periods", "costs", "count"]
theorem sc_least_costs : FnScope N_least_costs ["periods"] (defScope s_least_costs) := ⟨rfl, rfl, rfl, by decide +kernel, rfl, by decide +kernel, by decide +kernel⟩
theorem ok_least_costs {P : Program} {w : World} {K : PySem.W.Frag} {mg : Str → Option Value} {base : Heap} {ca : Nat → Addr} {a : Addr} {fd : FuncData} (F : Fun K "least_costs" "least_costs" s_least_costs a fd) (B : Bl mg) (T : Tx P K mg ca) {a_check_periods : Addr} {fd_check_periods : FuncData} (C_check_periods : Df P w K mg base ca cfG 1 "check_periods" a_check_periods fd_check_periods ["periods", "cap"] .e f_check_periods)
    (D_check_periods : BindD K fd_check_periods ["periods", "cap"] .none)
    {a_last_costs : Addr} {fd_last_costs : FuncData} (C_last_costs : Df P w K mg base ca cfG 1 "last_costs" a_last_costs fd_last_costs ["periods", "costs", "count", "ending"] .e f_last_costs)
    (B_last_costs : Binds K fd_last_costs ["periods", "costs", "count", "ending"] []) : FnOk P w K mg base (L2.CX P w) 2 a fd ["periods"] (SpF ca cfG .o 1 f_least_costs) :=
  fn_body F sc_least_costs fun cdv A outer s H E hr => by
    have hu := hr.units
    have tk0 := tk_of (P := P) (w := w) (K := K) (mg := mg) (base := base) (N := N_least_costs) (qual := "least_costs") (sc := defScope s_least_costs) (f := a) (cd := cdv) (A := A) (outer := outer) (s := s) (H := H) (E := E)
    have pa0 := pa_of (P := P) (w := w) (K := K) (mg := mg) (base := base) (N := N_least_costs) (qual := "least_costs") (sc := defScope s_least_costs) (f := a) (cd := cdv) (A := A) (outer := outer) (s := s) (H := H) (E := E)
    exact (xss_cons (xs_drop (fun _ h => ps_expr h) (XX.e_b (xcallDE C_check_periods D_check_periods (hr.mono (by decide)) tk0 (ae_cons (xv 0) ae_nil))))
  (xss_cons (xs_setO (fun _ h => ps_set (i := 1) sc_least_costs.nd rfl (by first | exact Or.inl rfl | exact Or.inr rfl) h) (xlst (ae_cons xi ae_nil)))
  (xss_cons (xs_for (fun _ _ _ hi hg hb => ps_for pa0 rfl hi hg hb) (xi_range2 (fun _ h => pi_range2 rfl B.b_range h) (ab_cons (XX.e_b xi) (ab_cons (XX.e_b (xadd (xlen B.b_len (ab_cons (XX.e_b (xv 0)) ab_nil)) xi)) ab_nil))) (xg_name 2 (pg_name (i := 2) sc_least_costs.nd rfl (by first | exact Or.inl rfl | exact Or.inr rfl)))
  (xss_one (xs_if (teq hu (XX.e_b (xix (XX.e_s (xix (XX.e_s (xv 0)) (xsub (xv 2) xi))) xi)) (XX.e_b xi))
  (xss_one (xs_append (i := 1) (fun _ h => ps_expr (pe_bm PySem.F.plainAttrs_list PySem.F.slot_list_append PySem.F.type_list_append mt_append (pv 1) h)) (ae_cons (xix (xb 1) (xneg xi)) ae_nil)))
  (xss_one (xs_append (i := 1) (fun _ h => ps_expr (pe_bm PySem.F.plainAttrs_list PySem.F.slot_list_append PySem.F.type_list_append mt_append (pv 1) h)) (ae_cons (xmin rfl B.b_min (ab_cons (xcallB C_last_costs B_last_costs (hr.mono (by decide)) tk0 (ab_cons (XX.e_b (xv 0)) (ab_cons (XX.s_b (xb 1)) (ab_cons (XX.e_b (xv 2)) (ab_cons (XX.e_b xi) ab_nil))))) ab_nil)) ae_nil))))))
  (xss_one (xs_retV (pv 1))))))
abbrev s_check_ending : Stmt := topS 18
abbrev N_check_ending : List Str := ["periods", "ending"]
theorem sc_check_ending : FnScope N_check_ending ["periods", "ending"] (defScope s_check_ending) := ⟨rfl, rfl, rfl, by decide +kernel, rfl, by decide +kernel, by decide +kernel⟩
theorem ok_check_ending {P : Program} {w : World} {K : PySem.W.Frag} {mg : Str → Option Value} {base : Heap} {ca : Nat → Addr} {a : Addr} {fd : FuncData} (F : Fun K "check_ending" "check_ending" s_check_ending a fd) (B : Bl mg) (T : Tx P K mg ca) {a_check_periods : Addr} {fd_check_periods : FuncData} (C_check_periods : Df P w K mg base ca cfG 1 "check_periods" a_check_periods fd_check_periods ["periods", "cap"] .e f_check_periods)
    (D_check_periods : BindD K fd_check_periods ["periods", "cap"] .none) : FnOk P w K mg base (L2.CX P w) 2 a fd ["periods", "ending"] (SpF ca cfG .e 2 f_check_ending) :=
  fn_body F sc_check_ending fun cdv A outer s H E hr => by
    have hu := hr.units
    have tk0 := tk_of (P := P) (w := w) (K := K) (mg := mg) (base := base) (N := N_check_ending) (qual := "check_ending") (sc := defScope s_check_ending) (f := a) (cd := cdv) (A := A) (outer := outer) (s := s) (H := H) (E := E)
    have pa0 := pa_of (P := P) (w := w) (K := K) (mg := mg) (base := base) (N := N_check_ending) (qual := "check_ending") (sc := defScope s_check_ending) (f := a) (cd := cdv) (A := A) (outer := outer) (s := s) (H := H) (E := E)
    exact (xss_cons (xs_drop (fun _ h => ps_expr h) (XX.e_b (xcallDE C_check_periods D_check_periods (hr.mono (by decide)) tk0 (ae_cons (xv 0) ae_nil))))
  (xss_cons (xs_if (tlt (xv 1) xi)
  (xss_one (xs_raise0 rfl tk0 T.q_InvalidEnding T.gm_InvalidEnding T.kp_InvalidEnding (raises_own T.sb_InvalidEnding T.ty_InvalidEnding) rfl))
  xss_nil)
  (xss_one (xs_if (XW.pt (wand (tgt (xv 1) xi) (wand1 (teq hu (XX.e_b (xlen B.b_len (ab_cons (XX.e_b (xv 0)) ab_nil))) (XX.e_b xi)))))
  (xss_one (xs_raise0 rfl tk0 T.q_NoPeriods T.gm_NoPeriods T.kp_NoPeriods (raises_own T.sb_NoPeriods T.ty_NoPeriods) rfl))
  xss_nil))))
abbrev s_least_cost : Stmt := topS 19
abbrev N_least_cost : List Str := ["periods", "ending", "costs"]
theorem sc_least_cost : FnScope N_least_cost ["periods", "ending"] (defScope s_least_cost) := ⟨rfl, rfl, rfl, by decide +kernel, rfl, by decide +kernel, by decide +kernel⟩
theorem ok_least_cost {P : Program} {w : World} {K : PySem.W.Frag} {mg : Str → Option Value} {base : Heap} {ca : Nat → Addr} {a : Addr} {fd : FuncData} (F : Fun K "least_cost" "least_cost" s_least_cost a fd) (B : Bl mg) (T : Tx P K mg ca) {a_last_costs : Addr} {fd_last_costs : FuncData} (C_last_costs : Df P w K mg base ca cfG 1 "last_costs" a_last_costs fd_last_costs ["periods", "costs", "count", "ending"] .e f_last_costs)
    (B_last_costs : Binds K fd_last_costs ["periods", "costs", "count", "ending"] [])
    {a_least_costs : Addr} {fd_least_costs : FuncData} (C_least_costs : Df P w K mg base ca cfG 2 "least_costs" a_least_costs fd_least_costs ["periods"] .o f_least_costs)
    (B_least_costs : Binds K fd_least_costs ["periods"] [])
    {a_check_ending : Addr} {fd_check_ending : FuncData} (C_check_ending : Df P w K mg base ca cfG 2 "check_ending" a_check_ending fd_check_ending ["periods", "ending"] .e f_check_ending)
    (B_check_ending : Binds K fd_check_ending ["periods", "ending"] []) : FnOk P w K mg base (L2.CX P w) 3 a fd ["periods", "ending"] (SpF ca cfG .e 2 f_least_cost) :=
  fn_body F sc_least_cost fun cdv A outer s H E hr => by
    have hu := hr.units
    have tk0 := tk_of (P := P) (w := w) (K := K) (mg := mg) (base := base) (N := N_least_cost) (qual := "least_cost") (sc := defScope s_least_cost) (f := a) (cd := cdv) (A := A) (outer := outer) (s := s) (H := H) (E := E)
    have pa0 := pa_of (P := P) (w := w) (K := K) (mg := mg) (base := base) (N := N_least_cost) (qual := "least_cost") (sc := defScope s_least_cost) (f := a) (cd := cdv) (A := A) (outer := outer) (s := s) (H := H) (E := E)
    exact (xss_cons (xs_drop (fun _ h => ps_expr h) (XX.e_b (xcallE C_check_ending B_check_ending (hr.mono (by decide)) tk0 (ae_cons (xv 0) (ae_cons (xv 1) ae_nil)))))
  (xss_cons (xs_set (fun _ h => ps_set (i := 2) sc_least_cost.nd rfl (by first | exact Or.inl rfl | exact Or.inr rfl) h) (XX.o_e (xcallO C_least_costs B_least_costs (hr.mono (by decide)) tk0 (ae_cons (xv 0) ae_nil))))
  (xss_cons (xs_if (teq hu (XX.e_b (xv 1)) (XX.e_b xi))
  (xss_one (xs_ret (xix (XX.e_s (xv 2)) (xneg xi))))
  xss_nil)
  (xss_one (xs_ret (xmin rfl B.b_min (ab_cons (XX.e_b (xcallE C_last_costs B_last_costs (hr.mono (by decide)) tk0 (ae_cons (xv 0) (ae_cons (xv 2) (ae_cons (xlen B.b_len (ab_cons (XX.e_b (xv 0)) ab_nil)) (ae_cons (xv 1) ae_nil)))))) ab_nil)))))))
abbrev s_cost_lines : Stmt := topS 21
abbrev N_cost_lines : List Str := ["periods", "bases", "rate", "lines", "start"]
theorem sc_cost_lines : FnScope N_cost_lines ["periods"] (defScope s_cost_lines) := ⟨rfl, rfl, rfl, by decide +kernel, rfl, by decide +kernel, by decide +kernel⟩
theorem ok_cost_lines {P : Program} {w : World} {K : PySem.W.Frag} {mg : Str → Option Value} {base : Heap} {ca : Nat → Addr} {a : Addr} {fd : FuncData} (F : Fun K "cost_lines" "cost_lines" s_cost_lines a fd) (B : Bl mg) (T : Tx P K mg ca) {a_last_costs : Addr} {fd_last_costs : FuncData} (C_last_costs : Df P w K mg base ca cfG 1 "last_costs" a_last_costs fd_last_costs ["periods", "costs", "count", "ending"] .e f_last_costs)
    (B_last_costs : Binds K fd_last_costs ["periods", "costs", "count", "ending"] [])
    {a_least_costs : Addr} {fd_least_costs : FuncData} (C_least_costs : Df P w K mg base ca cfG 2 "least_costs" a_least_costs fd_least_costs ["periods"] .o f_least_costs)
    (B_least_costs : Binds K fd_least_costs ["periods"] []) : FnOk P w K mg base (L2.CX P w) 3 a fd ["periods"] (SpF ca cfG .e 1 f_cost_lines) :=
  fn_body F sc_cost_lines fun cdv A outer s H E hr => by
    have hu := hr.units
    have tk0 := tk_of (P := P) (w := w) (K := K) (mg := mg) (base := base) (N := N_cost_lines) (qual := "cost_lines") (sc := defScope s_cost_lines) (f := a) (cd := cdv) (A := A) (outer := outer) (s := s) (H := H) (E := E)
    have pa0 := pa_of (P := P) (w := w) (K := K) (mg := mg) (base := base) (N := N_cost_lines) (qual := "cost_lines") (sc := defScope s_cost_lines) (f := a) (cd := cdv) (A := A) (outer := outer) (s := s) (H := H) (E := E)
    exact (xss_cons (xs_set (fun _ h => ps_set (i := 1) sc_cost_lines.nd rfl (by first | exact Or.inl rfl | exact Or.inr rfl) h) (xcallE C_last_costs B_last_costs (hr.mono (by decide)) tk0 (ae_cons (xv 0) (ae_cons (XX.o_e (xcallO C_least_costs B_least_costs (hr.mono (by decide)) tk0 (ae_cons (xv 0) ae_nil))) (ae_cons (xlen B.b_len (ab_cons (XX.e_b (xv 0)) ab_nil)) (ae_cons xi ae_nil))))))
  (xss_cons (xs_set (fun _ h => ps_set (i := 2) sc_cost_lines.nd rfl (by first | exact Or.inl rfl | exact Or.inr rfl) h) xi)
  (xss_cons (xs_setO (fun _ h => ps_set (i := 3) sc_cost_lines.nd rfl (by first | exact Or.inl rfl | exact Or.inr rfl) h) (xlst ae_nil))
  (xss_cons (xs_for (fun _ _ _ hi hg hb => ps_for pa0 rfl hi hg hb) (xi_revR (fun _ h => pi_revR rfl B.b_reversed (prg_1 rfl B.b_range h)) (xlen B.b_len (ab_cons (XX.e_b (xv 0)) ab_nil))) (xg_name 4 (pg_name (i := 4) sc_cost_lines.nd rfl (by first | exact Or.inl rfl | exact Or.inr rfl)))
  (xss_cons (xs_augAdd (fun _ h => ps_aug (i := 2) sc_cost_lines.nd rfl (by first | exact Or.inl rfl | exact Or.inr rfl) h ip_add) (xix (XX.e_s (xix (XX.e_s (xv 0)) (xv 4))) xi))
  (xss_one (xs_append (i := 3) (fun _ h => ps_expr (pe_bm PySem.F.plainAttrs_list PySem.F.slot_list_append PySem.F.type_list_append mt_append (pv 3) h)) (ae_cons (xtup (ae_cons (xix (XX.e_s (xv 1)) (xv 4)) (ae_cons (xv 2) ae_nil))) ae_nil)))))
  (xss_cons (xs_reverse (i := 3) (ps_expr (pe_bm0 PySem.F.plainAttrs_list PySem.F.slot_list_reverse PySem.F.type_list_reverse mt_reverse (pv 3))))
  (xss_one (xs_fz 3 (xs_ret (xv 3)))))))))
abbrev s_greatest_forced : Stmt := topS 23
abbrev N_greatest_forced : List Str := ["periods", "cap", "limit", "base", "rate"]
theorem sc_greatest_forced : FnScope N_greatest_forced ["periods", "cap"] (defScope s_greatest_forced) := ⟨rfl, rfl, rfl, by decide +kernel, rfl, by decide +kernel, by decide +kernel⟩
theorem ok_greatest_forced {P : Program} {w : World} {K : PySem.W.Frag} {mg : Str → Option Value} {base : Heap} {ca : Nat → Addr} {a : Addr} {fd : FuncData} (F : Fun K "greatest_forced" "greatest_forced" s_greatest_forced a fd) (B : Bl mg) (T : Tx P K mg ca) {a_check_periods : Addr} {fd_check_periods : FuncData} (C_check_periods : Df P w K mg base ca cfG 1 "check_periods" a_check_periods fd_check_periods ["periods", "cap"] .e f_check_periods)
    (D_check_periods : BindD K fd_check_periods ["periods", "cap"] .none)
    {a_least_cost : Addr} {fd_least_cost : FuncData} (C_least_cost : Df P w K mg base ca cfG 3 "least_cost" a_least_cost fd_least_cost ["periods", "ending"] .e f_least_cost)
    (D_least_cost : BindD K fd_least_cost ["periods", "ending"] (.int 0))
    {a_cost_lines : Addr} {fd_cost_lines : FuncData} (C_cost_lines : Df P w K mg base ca cfG 3 "cost_lines" a_cost_lines fd_cost_lines ["periods"] .e f_cost_lines)
    (B_cost_lines : Binds K fd_cost_lines ["periods"] []) : FnOk P w K mg base (L2.CX P w) 4 a fd ["periods", "cap"] (SpF ca cfG .e 2 f_greatest_forced) :=
  fn_body F sc_greatest_forced fun cdv A outer s H E hr => by
    have hu := hr.units
    have tk0 := tk_of (P := P) (w := w) (K := K) (mg := mg) (base := base) (N := N_greatest_forced) (qual := "greatest_forced") (sc := defScope s_greatest_forced) (f := a) (cd := cdv) (A := A) (outer := outer) (s := s) (H := H) (E := E)
    have pa0 := pa_of (P := P) (w := w) (K := K) (mg := mg) (base := base) (N := N_greatest_forced) (qual := "greatest_forced") (sc := defScope s_greatest_forced) (f := a) (cd := cdv) (A := A) (outer := outer) (s := s) (H := H) (E := E)
    exact (xss_cons (xs_drop (fun _ h => ps_expr h) (XX.e_b (xcallDE C_check_periods D_check_periods (hr.mono (by decide)) tk0 (ae_cons (xv 0) ae_nil))))
  (xss_cons (xs_if (teq hu (XX.e_b (xlen B.b_len (ab_cons (XX.e_b (xv 0)) ab_nil))) (XX.e_b xi))
  (xss_one (xs_raise0 rfl tk0 T.q_NoPeriods T.gm_NoPeriods T.kp_NoPeriods (raises_own T.sb_NoPeriods T.ty_NoPeriods) rfl))
  xss_nil)
  (xss_cons (xs_if (tisn (XX.e_b (xv 1)))
  (xss_one (xs_ret xn))
  xss_nil)
  (xss_cons (xs_set (fun _ h => ps_set (i := 2) sc_greatest_forced.nd rfl (by first | exact Or.inl rfl | exact Or.inr rfl) h) (xsub (xadd (xcallDE C_least_cost D_least_cost (hr.mono (by decide)) tk0 (ae_cons (xv 0) ae_nil)) (xv 1)) xi))
  (xss_one (xs_ret (xmax rfl B.b_max (ab_cons (XX.e_b (xadd (XX.o_e (xlst (ae_cons xi ae_nil))) (XX.o_e (xcomp (is := [3, 4]) (vs := [3, 4]) (by decide) (fun _ hi => pe_lc (own := [("base", 3), ("rate", 4)]) rfl sc_greatest_forced.nd hi (blkOk_by (own := [("base", 3), ("rate", 4)]) (N := N_greatest_forced) (sc := defScope s_greatest_forced) (by decide +kernel)) (fun _ _ _ _ _ => pg_u (xg_tup (fun _ h => pg_tup rfl h) rfl (xgs_cons (xg_name 3 (pg_name (i := 3) sc_greatest_forced.nd rfl (by first | exact Or.inl rfl | exact Or.inr rfl))) (xgs_cons (xg_name 4 (pg_name (i := 4) sc_greatest_forced.nd rfl (by first | exact Or.inl rfl | exact Or.inr rfl))) xgs_nil)))) (fun _ _ _ _ _ => pts_u xts_nil) (fun _ _ _ _ _ => pe_u (xdiv (xsub (xv 2) (xv 3)) (xv 4)))) (xi_list (xcallE C_cost_lines B_cost_lines (hr.mono (by decide)) tk0 (ae_cons (xv 0) ae_nil))))))) ab_nil))))))))
abbrev s_standard_continuation : Stmt := topS 24
abbrev N_standard_continuation : List Str := ["periods", "ending", "cap", "greatest"]
theorem sc_standard_continuation : FnScope N_standard_continuation ["periods", "ending", "cap"] (defScope s_standard_continuation) := ⟨rfl, rfl, rfl, by decide +kernel, rfl, by decide +kernel, by decide +kernel⟩
theorem ok_standard_continuation {P : Program} {w : World} {K : PySem.W.Frag} {mg : Str → Option Value} {base : Heap} {ca : Nat → Addr} {a : Addr} {fd : FuncData} (F : Fun K "standard_continuation" "standard_continuation" s_standard_continuation a fd) (B : Bl mg) (T : Tx P K mg ca) {a_least_cost : Addr} {fd_least_cost : FuncData} (C_least_cost : Df P w K mg base ca cfG 3 "least_cost" a_least_cost fd_least_cost ["periods", "ending"] .e f_least_cost)
    (K_least_cost : BindK K fd_least_cost ["periods", "ending"] "ending")
    {a_greatest_forced : Addr} {fd_greatest_forced : FuncData} (C_greatest_forced : Df P w K mg base ca cfG 4 "greatest_forced" a_greatest_forced fd_greatest_forced ["periods", "cap"] .e f_greatest_forced)
    (K_greatest_forced : BindK K fd_greatest_forced ["periods", "cap"] "cap") : FnOk P w K mg base (L2.CX P w) 5 a fd ["periods", "ending", "cap"] (SpF ca cfG .o 3 f_standard_continuation) :=
  fn_body F sc_standard_continuation fun cdv A outer s H E hr => by
    have hu := hr.units
    have tk0 := tk_of (P := P) (w := w) (K := K) (mg := mg) (base := base) (N := N_standard_continuation) (qual := "standard_continuation") (sc := defScope s_standard_continuation) (f := a) (cd := cdv) (A := A) (outer := outer) (s := s) (H := H) (E := E)
    have pa0 := pa_of (P := P) (w := w) (K := K) (mg := mg) (base := base) (N := N_standard_continuation) (qual := "standard_continuation") (sc := defScope s_standard_continuation) (f := a) (cd := cdv) (A := A) (outer := outer) (s := s) (H := H) (E := E)
    exact (xss_cons (xs_set (fun _ h => ps_set (i := 3) sc_standard_continuation.nd rfl (by first | exact Or.inl rfl | exact Or.inr rfl) h) (xcallKE C_greatest_forced K_greatest_forced (hr.mono (by decide)) tk0 (ae_cons (xv 0) ae_nil) (xv 2)))
  (xss_cons (xs_if (tlt (xv 1) xi)
  (xss_one (xs_raise0 rfl tk0 T.q_InvalidEnding T.gm_InvalidEnding T.kp_InvalidEnding (raises_own T.sb_InvalidEnding T.ty_InvalidEnding) rfl))
  xss_nil)
  (xss_cons (xs_if (teq hu (XX.e_b (xv 1)) (XX.e_b xi))
  (xss_one (xs_ret (xlst ae_nil)))
  xss_nil)
  (xss_cons (xs_if (XW.pt (wand (tnotn (XX.e_b (xv 3))) (wand1 (tgt (xv 1) (xv 3)))))
  (xss_one (xs_raise0 rfl tk0 T.q_NotForced T.gm_NotForced T.kp_NotForced (raises_own T.sb_NotForced T.ty_NotForced) rfl))
  xss_nil)
  (xss_cons (xs_if (tisn (XX.e_b (xv 2)))
  (xss_one (xs_ret (xlst (ae_cons (xtup (ae_cons (xv 1) (ae_cons (xadd (xcallKE C_least_cost K_least_cost (hr.mono (by decide)) tk0 (ae_cons (xv 0) ae_nil) (xv 1)) xi) (ae_cons xi ae_nil)))) ae_nil))))
  xss_nil)
  (xss_one (xs_ret (xlst (ae_cons (xtup (ae_cons (xv 1) (ae_cons (xv 2) (ae_cons xi ae_nil)))) ae_nil)))))))))
abbrev s_law_cell : Stmt := topS 26
abbrev N_law_cell : List Str := ["_law_script", "_law_k"]
theorem sc_law_cell : FnScope N_law_cell ["_law_script", "_law_k"] (defScope s_law_cell) := ⟨rfl, rfl, rfl, by decide +kernel, rfl, by decide +kernel, by decide +kernel⟩
theorem ok_law_cell {P : Program} {w : World} {K : PySem.W.Frag} {mg : Str → Option Value} {base : Heap} {ca : Nat → Addr} {a : Addr} {fd : FuncData} (F : Fun K "_law_cell" "_law_cell" s_law_cell a fd) (B : Bl mg) (T : Tx P K mg ca)  : FnOk P w K mg base (L2.CX P w) 1 a fd ["_law_script", "_law_k"] (SpF ca cfG .e 2 f_law_cell) :=
  fn_body F sc_law_cell fun cdv A outer s H E hr => by
    have hu := hr.units
    have tk0 := tk_of (P := P) (w := w) (K := K) (mg := mg) (base := base) (N := N_law_cell) (qual := "_law_cell") (sc := defScope s_law_cell) (f := a) (cd := cdv) (A := A) (outer := outer) (s := s) (H := H) (E := E)
    have pa0 := pa_of (P := P) (w := w) (K := K) (mg := mg) (base := base) (N := N_law_cell) (qual := "_law_cell") (sc := defScope s_law_cell) (f := a) (cd := cdv) (A := A) (outer := outer) (s := s) (H := H) (E := E)
    exact (xss_cons (xs_if (tlt (xv 1) (xlen B.b_len (ab_cons (XX.e_b (xv 0)) ab_nil)))
  (xss_one (xs_ret (xabs B.b_abs (ab_cons (XX.e_b (xix (XX.e_s (xv 0)) (xv 1))) ab_nil))))
  xss_nil)
  (xss_one (xs_ret xi)))
abbrev s_law_number : Stmt := topS 27
abbrev N_law_number : List Str := ["_law_script", "_law_k", "_law_cell_here", "_law_first", "_law_second"]
theorem sc_law_number : FnScope N_law_number ["_law_script", "_law_k"] (defScope s_law_number) := ⟨rfl, rfl, rfl, by decide +kernel, rfl, by decide +kernel, by decide +kernel⟩
theorem ok_law_number {P : Program} {w : World} {K : PySem.W.Frag} {mg : Str → Option Value} {base : Heap} {ca : Nat → Addr} {a : Addr} {fd : FuncData} (F : Fun K "_law_number" "_law_number" s_law_number a fd) (B : Bl mg) (T : Tx P K mg ca) {a_law_cell : Addr} {fd_law_cell : FuncData} (C_law_cell : Df P w K mg base ca cfG 1 "_law_cell" a_law_cell fd_law_cell ["_law_script", "_law_k"] .e f_law_cell)
    (B_law_cell : Binds K fd_law_cell ["_law_script", "_law_k"] []) : FnOk P w K mg base (L2.CX P w) 2 a fd ["_law_script", "_law_k"] (SpF ca cfG .e 2 f_law_number) :=
  fn_body F sc_law_number fun cdv A outer s H E hr => by
    have hu := hr.units
    have tk0 := tk_of (P := P) (w := w) (K := K) (mg := mg) (base := base) (N := N_law_number) (qual := "_law_number") (sc := defScope s_law_number) (f := a) (cd := cdv) (A := A) (outer := outer) (s := s) (H := H) (E := E)
    have pa0 := pa_of (P := P) (w := w) (K := K) (mg := mg) (base := base) (N := N_law_number) (qual := "_law_number") (sc := defScope s_law_number) (f := a) (cd := cdv) (A := A) (outer := outer) (s := s) (H := H) (E := E)
    exact (xss_cons (xs_set (fun _ h => ps_set (i := 2) sc_law_number.nd rfl (by first | exact Or.inl rfl | exact Or.inr rfl) h) (xcallE C_law_cell B_law_cell (hr.mono (by decide)) tk0 (ae_cons (xv 0) (ae_cons (xv 1) ae_nil))))
  (xss_cons (xs_if (tge (xv 2) (xpow (m := 10) (n := 18) ⟨by decide, by decide, by decide⟩))
  (xss_one (xs_ret (xv 2)))
  xss_nil)
  (xss_cons (xs_set (fun _ h => ps_set (i := 3) sc_law_number.nd rfl (by first | exact Or.inl rfl | exact Or.inr rfl) h) (xmod (xint B.b_int (ab_cons (XX.e_b (xadd (xadd (xmul (xv 2) xi) (xmul xi (xv 1))) xi)) ab_nil)) xi))
  (xss_cons (xs_set (fun _ h => ps_set (i := 4) sc_law_number.nd rfl (by first | exact Or.inl rfl | exact Or.inr rfl) h) (xmod (xint B.b_int (ab_cons (XX.e_b (xadd (xadd (xmul (xv 3) xi) (xmul xi (xv 1))) xi)) ab_nil)) xi))
  (xss_one (xs_ret (xadd (xv 3) (xmul xi (xv 4)))))))))
abbrev s_law_period : Stmt := topS 28
abbrev N_law_period : List Str := ["_law_number_here", "_law_scale", "_law_low", "_law_setup", "_law_hold", "_law_sizes", "_law_many", "_law_most", "_law_rate", "_law_demand", "_law_odd"]
theorem sc_law_period : FnScope N_law_period ["_law_number_here", "_law_scale"] (defScope s_law_period) := ⟨rfl, rfl, rfl, by decide +kernel, rfl, by decide +kernel, by decide +kernel⟩
theorem ok_law_period {P : Program} {w : World} {K : PySem.W.Frag} {mg : Str → Option Value} {base : Heap} {ca : Nat → Addr} {a : Addr} {fd : FuncData} (F : Fun K "_law_period" "_law_period" s_law_period a fd) (B : Bl mg) (T : Tx P K mg ca)  : FnOk P w K mg base (L2.CX P w) 1 a fd ["_law_number_here", "_law_scale"] (SpF ca cfG .e 2 f_law_period) :=
  fn_body F sc_law_period fun cdv A outer s H E hr => by
    have hu := hr.units
    have tk0 := tk_of (P := P) (w := w) (K := K) (mg := mg) (base := base) (N := N_law_period) (qual := "_law_period") (sc := defScope s_law_period) (f := a) (cd := cdv) (A := A) (outer := outer) (s := s) (H := H) (E := E)
    have pa0 := pa_of (P := P) (w := w) (K := K) (mg := mg) (base := base) (N := N_law_period) (qual := "_law_period") (sc := defScope s_law_period) (f := a) (cd := cdv) (A := A) (outer := outer) (s := s) (H := H) (E := E)
    exact (xss_cons (xs_if (teq hu (XX.e_b (xv 1)) (XX.e_b xi))
  (xss_cons (xs_set (fun _ h => ps_set (i := 2) sc_law_period.nd rfl (by first | exact Or.inl rfl | exact Or.inr rfl) h) (xmod (xint B.b_int (ab_cons (XX.e_b (xv 0)) ab_nil)) (xpow (m := 10) (n := 60) ⟨by decide, by decide, by decide⟩)))
  (xss_cons (xs_set (fun _ h => ps_set (i := 3) sc_law_period.nd rfl (by first | exact Or.inl rfl | exact Or.inr rfl) h) (xmod (xint B.b_int (ab_cons (XX.e_b (xadd (xdiv (xv 0) (xpow (m := 10) (n := 30) ⟨by decide, by decide, by decide⟩)) (xmul (xv 2) (xv 2)))) ab_nil)) (xpow (m := 10) (n := 60) ⟨by decide, by decide, by decide⟩)))
  (xss_cons (xs_set (fun _ h => ps_set (i := 4) sc_law_period.nd rfl (by first | exact Or.inl rfl | exact Or.inr rfl) h) (xadd xi (xmod (xint B.b_int (ab_cons (XX.e_b (xadd (xdiv (xdiv (xv 0) (xpow (m := 10) (n := 45) ⟨by decide, by decide, by decide⟩)) (xpow (m := 10) (n := 45) ⟨by decide, by decide, by decide⟩)) (xmul xi (xv 2)))) ab_nil)) (xpow (m := 10) (n := 30) ⟨by decide, by decide, by decide⟩))))
  (xss_one (xs_ret (xtup (ae_cons (xmod (xv 2) (xpow (m := 10) (n := 30) ⟨by decide, by decide, by decide⟩)) (ae_cons (xv 3) (ae_cons (xv 4) ae_nil)))))))))
  xss_nil)
  (xss_cons (xs_set (fun _ h => ps_set (i := 5) sc_law_period.nd rfl (by first | exact Or.inl rfl | exact Or.inr rfl) h) (XX.o_e (xlst (ae_cons (xtup (ae_cons xi (ae_cons xi (ae_cons xi ae_nil)))) (ae_cons (xtup (ae_cons xi (ae_cons xi (ae_cons xi ae_nil)))) (ae_cons (xtup (ae_cons xi (ae_cons xi (ae_cons xi ae_nil)))) (ae_cons (xtup (ae_cons (xpow (m := 10) (n := 6) ⟨by decide, by decide, by decide⟩) (ae_cons (xpow (m := 10) (n := 9) ⟨by decide, by decide, by decide⟩) (ae_cons xi ae_nil)))) (ae_cons (xtup (ae_cons xi (ae_cons xi (ae_cons xi ae_nil)))) ae_nil))))))))
  (xss_cons (xs_asgT (fun _ _ h1 h2 => ps_asg h1 h2) (xix (XX.e_s (xv 5)) (xv 1)) (xg_tup (fun _ h => pg_tup rfl h) rfl (xgs_cons (xg_name 6 (pg_name (i := 6) sc_law_period.nd rfl (by first | exact Or.inl rfl | exact Or.inr rfl))) (xgs_cons (xg_name 7 (pg_name (i := 7) sc_law_period.nd rfl (by first | exact Or.inl rfl | exact Or.inr rfl))) (xgs_cons (xg_name 8 (pg_name (i := 8) sc_law_period.nd rfl (by first | exact Or.inl rfl | exact Or.inr rfl))) xgs_nil)))))
  (xss_cons (xs_set (fun _ h => ps_set (i := 9) sc_law_period.nd rfl (by first | exact Or.inl rfl | exact Or.inr rfl) h) (xmod (xint B.b_int (ab_cons (XX.e_b (xv 0)) ab_nil)) (xv 6)))
  (xss_cons (xs_set (fun _ h => ps_set (i := 3) sc_law_period.nd rfl (by first | exact Or.inl rfl | exact Or.inr rfl) h) (xmod (xint B.b_int (ab_cons (XX.e_b (xdiv (xv 0) (xv 6))) ab_nil)) (xv 7)))
  (xss_cons (xs_set (fun _ h => ps_set (i := 4) sc_law_period.nd rfl (by first | exact Or.inl rfl | exact Or.inr rfl) h) (xadd xi (xmod (xint B.b_int (ab_cons (XX.e_b (xdiv (xv 0) (xmul (xv 6) (xv 7)))) ab_nil)) (xv 8))))
  (xss_cons (xs_set (fun _ h => ps_set (i := 10) sc_law_period.nd rfl (by first | exact Or.inl rfl | exact Or.inr rfl) h) (xmod (xint B.b_int (ab_cons (XX.e_b (xdiv (xv 0) (xmul (xmul (xv 6) (xv 7)) (xv 8)))) ab_nil)) xi))
  (xss_cons (xs_if (teq hu (XX.e_b (xv 10)) (XX.e_b xi))
  (xss_one (xs_set (fun _ h => ps_set (i := 9) sc_law_period.nd rfl (by first | exact Or.inl rfl | exact Or.inr rfl) h) xi))
  xss_nil)
  (xss_cons (xs_if (teq hu (XX.e_b (xv 10)) (XX.e_b xi))
  (xss_one (xs_set (fun _ h => ps_set (i := 3) sc_law_period.nd rfl (by first | exact Or.inl rfl | exact Or.inr rfl) h) xi))
  xss_nil)
  (xss_cons (xs_if (teq hu (XX.e_b (xv 1)) (XX.e_b xi))
  (xss_one (xs_ret (xtup (ae_cons (xmul (xv 9) (xpow (m := 10) (n := 12) ⟨by decide, by decide, by decide⟩)) (ae_cons (xmul (xv 3) (xpow (m := 10) (n := 21) ⟨by decide, by decide, by decide⟩)) (ae_cons (xmul (xv 4) (xpow (m := 10) (n := 9) ⟨by decide, by decide, by decide⟩)) ae_nil))))))
  xss_nil)
  (xss_one (xs_ret (xtup (ae_cons (xv 9) (ae_cons (xv 3) (ae_cons (xv 4) ae_nil))))))))))))))))
abbrev s_law_periods : Stmt := topS 29
abbrev N_law_periods : List Str := ["_law_script", "_law_start", "_law_count", "_law_scale", "_law_k"]
theorem sc_law_periods : FnScope N_law_periods ["_law_script", "_law_start", "_law_count", "_law_scale"] (defScope s_law_periods) := ⟨rfl, rfl, rfl, by decide +kernel, rfl, by decide +kernel, by decide +kernel⟩
theorem ok_law_periods {P : Program} {w : World} {K : PySem.W.Frag} {mg : Str → Option Value} {base : Heap} {ca : Nat → Addr} {a : Addr} {fd : FuncData} (F : Fun K "_law_periods" "_law_periods" s_law_periods a fd) (B : Bl mg) (T : Tx P K mg ca) {a_law_number : Addr} {fd_law_number : FuncData} (C_law_number : Df P w K mg base ca cfG 2 "_law_number" a_law_number fd_law_number ["_law_script", "_law_k"] .e f_law_number)
    (B_law_number : Binds K fd_law_number ["_law_script", "_law_k"] [])
    {a_law_period : Addr} {fd_law_period : FuncData} (C_law_period : Df P w K mg base ca cfG 1 "_law_period" a_law_period fd_law_period ["_law_number_here", "_law_scale"] .e f_law_period)
    (B_law_period : Binds K fd_law_period ["_law_number_here", "_law_scale"] []) : FnOk P w K mg base (L2.CX P w) 3 a fd ["_law_script", "_law_start", "_law_count", "_law_scale"] (SpF ca cfG .o 4 f_law_periods) :=
  fn_body F sc_law_periods fun cdv A outer s H E hr => by
    have hu := hr.units
    have tk0 := tk_of (P := P) (w := w) (K := K) (mg := mg) (base := base) (N := N_law_periods) (qual := "_law_periods") (sc := defScope s_law_periods) (f := a) (cd := cdv) (A := A) (outer := outer) (s := s) (H := H) (E := E)
    have pa0 := pa_of (P := P) (w := w) (K := K) (mg := mg) (base := base) (N := N_law_periods) (qual := "_law_periods") (sc := defScope s_law_periods) (f := a) (cd := cdv) (A := A) (outer := outer) (s := s) (H := H) (E := E)
    exact (xss_one (xs_ret (xcomp (is := [4]) (vs := [4]) (by decide) (fun _ hi => pe_lc (own := [("_law_k", 4)]) rfl sc_law_periods.nd hi (blkOk_by (own := [("_law_k", 4)]) (N := N_law_periods) (sc := defScope s_law_periods) (by decide +kernel)) (fun _ _ _ _ _ => pg_u (xg_name 4 (pg_name (i := 4) sc_law_periods.nd rfl (by first | exact Or.inl rfl | exact Or.inr rfl)))) (fun _ _ _ _ _ => pts_u xts_nil) (fun _ _ _ _ _ => pe_u (xcallE C_law_period B_law_period (hr.mono (by decide)) takes0 (ae_cons (xcallE C_law_number B_law_number (hr.mono (by decide)) takes0 (ae_cons (xv 0) (ae_cons (xadd (xv 1) (xv 4)) ae_nil))) (ae_cons (xv 3) ae_nil))))) (xi_range1 (fun _ h => pi_range1 rfl B.b_range h) (ab_cons (XX.e_b (xv 2)) ab_nil)))))
abbrev s_law_shape : Stmt := topS 30
abbrev N_law_shape : List Str := ["_law_script", "_law_most", "_law_cell_here", "_law_digits", "_law_total", "_law_known"]
theorem sc_law_shape : FnScope N_law_shape ["_law_script", "_law_most"] (defScope s_law_shape) := ⟨rfl, rfl, rfl, by decide +kernel, rfl, by decide +kernel, by decide +kernel⟩
theorem ok_law_shape {P : Program} {w : World} {K : PySem.W.Frag} {mg : Str → Option Value} {base : Heap} {ca : Nat → Addr} {a : Addr} {fd : FuncData} (F : Fun K "_law_shape" "_law_shape" s_law_shape a fd) (B : Bl mg) (T : Tx P K mg ca) {a_law_cell : Addr} {fd_law_cell : FuncData} (C_law_cell : Df P w K mg base ca cfG 1 "_law_cell" a_law_cell fd_law_cell ["_law_script", "_law_k"] .e f_law_cell)
    (B_law_cell : Binds K fd_law_cell ["_law_script", "_law_k"] []) : FnOk P w K mg base (L2.CX P w) 2 a fd ["_law_script", "_law_most"] (SpF ca cfG .e 2 f_law_shape) :=
  fn_body F sc_law_shape fun cdv A outer s H E hr => by
    have hu := hr.units
    have tk0 := tk_of (P := P) (w := w) (K := K) (mg := mg) (base := base) (N := N_law_shape) (qual := "_law_shape") (sc := defScope s_law_shape) (f := a) (cd := cdv) (A := A) (outer := outer) (s := s) (H := H) (E := E)
    have pa0 := pa_of (P := P) (w := w) (K := K) (mg := mg) (base := base) (N := N_law_shape) (qual := "_law_shape") (sc := defScope s_law_shape) (f := a) (cd := cdv) (A := A) (outer := outer) (s := s) (H := H) (E := E)
    exact (xss_cons (xs_set (fun _ h => ps_set (i := 2) sc_law_shape.nd rfl (by first | exact Or.inl rfl | exact Or.inr rfl) h) (xcallE C_law_cell B_law_cell (hr.mono (by decide)) tk0 (ae_cons (xv 0) (ae_cons xi ae_nil))))
  (xss_cons (xs_set (fun _ h => ps_set (i := 3) sc_law_shape.nd rfl (by first | exact Or.inl rfl | exact Or.inr rfl) h) (xdiv (xv 2) xi))
  (xss_cons (xs_if (XW.pt (wand (teq hu (XX.e_b (xmod (xint B.b_int (ab_cons (XX.e_b (xv 3)) ab_nil)) xi)) (XX.e_b xi)) (wand1 (tgt (xlen B.b_len (ab_cons (XX.e_b (xv 0)) ab_nil)) xi))))
  (xss_cons (xs_set (fun _ h => ps_set (i := 4) sc_law_shape.nd rfl (by first | exact Or.inl rfl | exact Or.inr rfl) h) (xmin2 rfl B.b_min (ab_cons (XX.e_b (xsub (xlen B.b_len (ab_cons (XX.e_b (xv 0)) ab_nil)) xi)) (ab_cons (XX.e_b (xv 1)) ab_nil))))
  (xss_cons (xs_set (fun _ h => ps_set (i := 5) sc_law_shape.nd rfl (by first | exact Or.inl rfl | exact Or.inr rfl) h) (xadd xi (xmod (xint B.b_int (ab_cons (XX.e_b (xdiv (xv 3) xi)) ab_nil)) (xv 4))))
  (xss_one (xs_ret (xtup (ae_cons (xmod (xint B.b_int (ab_cons (XX.e_b (xv 2)) ab_nil)) xi) (ae_cons (xv 5) (ae_cons (xsub (xv 4) (xv 5)) ae_nil))))))))
  xss_nil)
  (xss_one (xs_ret (xtup (ae_cons (xmod (xint B.b_int (ab_cons (XX.e_b (xv 2)) ab_nil)) xi) (ae_cons (xadd xi (xmod (xint B.b_int (ab_cons (XX.e_b (xdiv (xv 3) xi)) ab_nil)) xi)) (ae_cons (xmod (xint B.b_int (ab_cons (XX.e_b (xdiv (xv 3) xi)) ab_nil)) xi) ae_nil)))))))))
abbrev s_law_cap : Stmt := topS 31
abbrev N_law_cap : List Str := ["_law_script", "_law_scale", "_law_number_here", "_law_tops", "_law_ceiling"]
theorem sc_law_cap : FnScope N_law_cap ["_law_script", "_law_scale"] (defScope s_law_cap) := ⟨rfl, rfl, rfl, by decide +kernel, rfl, by decide +kernel, by decide +kernel⟩
theorem ok_law_cap {P : Program} {w : World} {K : PySem.W.Frag} {mg : Str → Option Value} {base : Heap} {ca : Nat → Addr} {a : Addr} {fd : FuncData} (F : Fun K "_law_cap" "_law_cap" s_law_cap a fd) (B : Bl mg) (T : Tx P K mg ca) {a_law_number : Addr} {fd_law_number : FuncData} (C_law_number : Df P w K mg base ca cfG 2 "_law_number" a_law_number fd_law_number ["_law_script", "_law_k"] .e f_law_number)
    (B_law_number : Binds K fd_law_number ["_law_script", "_law_k"] []) : FnOk P w K mg base (L2.CX P w) 3 a fd ["_law_script", "_law_scale"] (SpF ca cfG .e 2 f_law_cap) :=
  fn_body F sc_law_cap fun cdv A outer s H E hr => by
    have hu := hr.units
    have tk0 := tk_of (P := P) (w := w) (K := K) (mg := mg) (base := base) (N := N_law_cap) (qual := "_law_cap") (sc := defScope s_law_cap) (f := a) (cd := cdv) (A := A) (outer := outer) (s := s) (H := H) (E := E)
    have pa0 := pa_of (P := P) (w := w) (K := K) (mg := mg) (base := base) (N := N_law_cap) (qual := "_law_cap") (sc := defScope s_law_cap) (f := a) (cd := cdv) (A := A) (outer := outer) (s := s) (H := H) (E := E)
    exact (xss_cons (xs_set (fun _ h => ps_set (i := 2) sc_law_cap.nd rfl (by first | exact Or.inl rfl | exact Or.inr rfl) h) (xcallE C_law_number B_law_number (hr.mono (by decide)) tk0 (ae_cons (xv 0) (ae_cons xi ae_nil))))
  (xss_cons (xs_if (teq hu (XX.e_b (xmod (xint B.b_int (ab_cons (XX.e_b (xv 2)) ab_nil)) xi)) (XX.e_b xi))
  (xss_one (xs_ret xn))
  xss_nil)
  (xss_cons (xs_set (fun _ h => ps_set (i := 3) sc_law_cap.nd rfl (by first | exact Or.inl rfl | exact Or.inr rfl) h) (XX.o_e (xlst (ae_cons xi (ae_cons xi (ae_cons xi (ae_cons (xpow (m := 10) (n := 9) ⟨by decide, by decide, by decide⟩) (ae_cons xi (ae_cons (xpow (m := 10) (n := 60) ⟨by decide, by decide, by decide⟩) ae_nil)))))))))
  (xss_cons (xs_set (fun _ h => ps_set (i := 4) sc_law_cap.nd rfl (by first | exact Or.inl rfl | exact Or.inr rfl) h) (xmod (xint B.b_int (ab_cons (XX.e_b (xdiv (xv 2) xi)) ab_nil)) (xix (XX.e_s (xv 3)) (xv 1))))
  (xss_cons (xs_if (teq hu (XX.e_b (xv 1)) (XX.e_b xi))
  (xss_one (xs_set (fun _ h => ps_set (i := 4) sc_law_cap.nd rfl (by first | exact Or.inl rfl | exact Or.inr rfl) h) (xmul (xv 4) (xpow (m := 10) (n := 21) ⟨by decide, by decide, by decide⟩))))
  xss_nil)
  (xss_one (xs_ret (xv 4))))))))
abbrev s_law_costs : Stmt := topS 32
abbrev N_law_costs : List Str := ["_law_periods_here", "_law_k", "_law_costs_here", "_law_start", "_law_cost", "_law_rate", "_law_at"]
theorem sc_law_costs : FnScope N_law_costs ["_law_periods_here"] (defScope s_law_costs) := ⟨rfl, rfl, rfl, by decide +kernel, rfl, by decide +kernel, by decide +kernel⟩
theorem ok_law_costs {P : Program} {w : World} {K : PySem.W.Frag} {mg : Str → Option Value} {base : Heap} {ca : Nat → Addr} {a : Addr} {fd : FuncData} (F : Fun K "_law_costs" "_law_costs" s_law_costs a fd) (B : Bl mg) (T : Tx P K mg ca)  : FnOk P w K mg base (L2.CX P w) 1 a fd ["_law_periods_here"] (SpF ca cfG .e 1 f_law_costs) :=
  fn_body F sc_law_costs fun cdv A outer s H E hr => by
    have hu := hr.units
    have tk0 := tk_of (P := P) (w := w) (K := K) (mg := mg) (base := base) (N := N_law_costs) (qual := "_law_costs") (sc := defScope s_law_costs) (f := a) (cd := cdv) (A := A) (outer := outer) (s := s) (H := H) (E := E)
    have pa0 := pa_of (P := P) (w := w) (K := K) (mg := mg) (base := base) (N := N_law_costs) (qual := "_law_costs") (sc := defScope s_law_costs) (f := a) (cd := cdv) (A := A) (outer := outer) (s := s) (H := H) (E := E)
    exact (xss_cons (xs_setO (fun _ h => ps_set (i := 2) sc_law_costs.nd rfl (by first | exact Or.inl rfl | exact Or.inr rfl) h) (xcat (XX.o_e (xlst (ae_cons xi ae_nil))) (XX.o_e (xcomp (is := [1]) (vs := [1]) (by decide) (fun _ hi => pe_lc (own := [("_law_k", 1)]) rfl sc_law_costs.nd hi (blkOk_by (own := [("_law_k", 1)]) (N := N_law_costs) (sc := defScope s_law_costs) (by decide +kernel)) (fun _ _ _ _ _ => pg_u (xg_name 1 (pg_name (i := 1) sc_law_costs.nd rfl (by first | exact Or.inl rfl | exact Or.inr rfl)))) (fun _ _ _ _ _ => pts_u xts_nil) (fun _ _ _ _ _ => pe_u xn)) (xi_range1 (fun _ h => pi_range1 rfl B.b_range h) (ab_cons (XX.e_b (xlen B.b_len (ab_cons (XX.e_b (xv 0)) ab_nil))) ab_nil))))))
  (xss_cons (xs_for (fun _ _ _ hi hg hb => ps_for pa0 rfl hi hg hb) (xi_range1 (fun _ h => pi_range1 rfl B.b_range h) (ab_cons (XX.e_b (xlen B.b_len (ab_cons (XX.e_b (xv 0)) ab_nil))) ab_nil)) (xg_name 3 (pg_name (i := 3) sc_law_costs.nd rfl (by first | exact Or.inl rfl | exact Or.inr rfl)))
  (xss_cons (xs_if (XW.pt (wand (tgt (xv 3) xi) (wand1 (teq hu (XX.e_b (xix (XX.e_s (xix (XX.e_s (xv 0)) (xsub (xv 3) xi))) xi)) (XX.e_b xi)))))
  (xss_one (xs_setItem (i := 2) (fun _ _ h1 h2 => ps_asg h1 (pg_sub (pv 2) h2 set_list)) (xmin2 rfl B.b_min (ab_cons (XX.e_b (xix (xb 2) (xv 3))) (ab_cons (XX.e_b (xix (xb 2) (xsub (xv 3) xi))) ab_nil))) (xv 3)))
  xss_nil)
  (xss_cons (xs_set (fun _ h => ps_set (i := 4) sc_law_costs.nd rfl (by first | exact Or.inl rfl | exact Or.inr rfl) h) (xadd (xix (xb 2) (xv 3)) (xix (XX.e_s (xix (XX.e_s (xv 0)) (xv 3))) xi)))
  (xss_cons (xs_set (fun _ h => ps_set (i := 5) sc_law_costs.nd rfl (by first | exact Or.inl rfl | exact Or.inr rfl) h) xi)
  (xss_one (xs_for (fun _ _ _ hi hg hb => ps_for pa0 rfl hi hg hb) (xi_range2 (fun _ h => pi_range2 rfl B.b_range h) (ab_cons (XX.e_b (xv 3)) (ab_cons (XX.e_b (xlen B.b_len (ab_cons (XX.e_b (xv 0)) ab_nil))) ab_nil))) (xg_name 6 (pg_name (i := 6) sc_law_costs.nd rfl (by first | exact Or.inl rfl | exact Or.inr rfl)))
  (xss_cons (xs_set (fun _ h => ps_set (i := 4) sc_law_costs.nd rfl (by first | exact Or.inl rfl | exact Or.inr rfl) h) (xadd (xv 4) (xmul (xv 5) (xix (XX.e_s (xix (XX.e_s (xv 0)) (xv 6))) xi))))
  (xss_cons (xs_set (fun _ h => ps_set (i := 5) sc_law_costs.nd rfl (by first | exact Or.inl rfl | exact Or.inr rfl) h) (xadd (xv 5) (xix (XX.e_s (xix (XX.e_s (xv 0)) (xv 6))) xi)))
  (xss_one (xs_if (XW.pt (wor (tisn (XX.e_b (xix (xb 2) (xadd (xv 6) xi)))) (wor1 (tlt (xv 4) (xix (xb 2) (xadd (xv 6) xi))))))
  (xss_one (xs_setItem (i := 2) (fun _ _ h1 h2 => ps_asg h1 (pg_sub (pv 2) h2 set_list)) (xv 4) (xadd (xv 6) xi)))
  xss_nil))))))))))
  (xss_cons (xs_if (XW.pt (wand (tgt (xlen B.b_len (ab_cons (XX.e_b (xv 0)) ab_nil)) xi) (wand1 (teq hu (XX.e_b (xix (XX.e_s (xix (XX.e_s (xv 0)) (xneg xi))) xi)) (XX.e_b xi)))))
  (xss_one (xs_setItem (i := 2) (fun _ _ h1 h2 => ps_asg h1 (pg_sub (pv 2) h2 set_list)) (xmin2 rfl B.b_min (ab_cons (XX.e_b (xix (xb 2) (xneg xi))) (ab_cons (XX.e_b (xix (xb 2) (xneg xi))) ab_nil))) (xneg xi)))
  xss_nil)
  (xss_one (xs_fz 2 (xs_ret (xv 2)))))))
abbrev s_law_high : Stmt := topS 33
abbrev N_law_high : List Str := ["_law_periods_here", "_law_final_here", "_law_demand", "_law_setup", "_law_hold", "_law_units"]
theorem sc_law_high : FnScope N_law_high ["_law_periods_here", "_law_final_here"] (defScope s_law_high) := ⟨rfl, rfl, rfl, by decide +kernel, rfl, by decide +kernel, by decide +kernel⟩
theorem ok_law_high {P : Program} {w : World} {K : PySem.W.Frag} {mg : Str → Option Value} {base : Heap} {ca : Nat → Addr} {a : Addr} {fd : FuncData} (F : Fun K "_law_high" "_law_high" s_law_high a fd) (B : Bl mg) (T : Tx P K mg ca)  : FnOk P w K mg base (L2.CX P w) 1 a fd ["_law_periods_here", "_law_final_here"] (SpF ca cfG .e 2 f_law_high) :=
  fn_body F sc_law_high fun cdv A outer s H E hr => by
    have hu := hr.units
    have tk0 := tk_of (P := P) (w := w) (K := K) (mg := mg) (base := base) (N := N_law_high) (qual := "_law_high") (sc := defScope s_law_high) (f := a) (cd := cdv) (A := A) (outer := outer) (s := s) (H := H) (E := E)
    have pa0 := pa_of (P := P) (w := w) (K := K) (mg := mg) (base := base) (N := N_law_high) (qual := "_law_high") (sc := defScope s_law_high) (f := a) (cd := cdv) (A := A) (outer := outer) (s := s) (H := H) (E := E)
    exact (xss_cons (xs_set (fun _ h => ps_set (i := 5) sc_law_high.nd rfl (by first | exact Or.inl rfl | exact Or.inr rfl) h) (xadd (xv 1) (xsum rfl B.b_sum (ab_cons (XX.e_b (XX.o_e (xcomp (is := [2, 3, 4]) (vs := [2, 3, 4]) (by decide) (fun _ hi => pe_lc (own := [("_law_demand", 2), ("_law_setup", 3), ("_law_hold", 4)]) rfl sc_law_high.nd hi (blkOk_by (own := [("_law_demand", 2), ("_law_setup", 3), ("_law_hold", 4)]) (N := N_law_high) (sc := defScope s_law_high) (by decide +kernel)) (fun _ _ _ _ _ => pg_u (xg_tup (fun _ h => pg_tup rfl h) rfl (xgs_cons (xg_name 2 (pg_name (i := 2) sc_law_high.nd rfl (by first | exact Or.inl rfl | exact Or.inr rfl))) (xgs_cons (xg_name 3 (pg_name (i := 3) sc_law_high.nd rfl (by first | exact Or.inl rfl | exact Or.inr rfl))) (xgs_cons (xg_name 4 (pg_name (i := 4) sc_law_high.nd rfl (by first | exact Or.inl rfl | exact Or.inr rfl))) xgs_nil))))) (fun _ _ _ _ _ => pts_u xts_nil) (fun _ _ _ _ _ => pe_u (xv 2))) (xi_list (xv 0))))) ab_nil))))
  (xss_one (xs_ret (xadd xi (xsum rfl B.b_sum (ab_cons (XX.e_b (XX.o_e (xcomp (is := [2, 3, 4]) (vs := [2, 3, 4]) (by decide) (fun _ hi => pe_lc (own := [("_law_demand", 2), ("_law_setup", 3), ("_law_hold", 4)]) rfl sc_law_high.nd hi (blkOk_by (own := [("_law_demand", 2), ("_law_setup", 3), ("_law_hold", 4)]) (N := N_law_high) (sc := defScope s_law_high) (by decide +kernel)) (fun _ _ _ _ _ => pg_u (xg_tup (fun _ h => pg_tup rfl h) rfl (xgs_cons (xg_name 2 (pg_name (i := 2) sc_law_high.nd rfl (by first | exact Or.inl rfl | exact Or.inr rfl))) (xgs_cons (xg_name 3 (pg_name (i := 3) sc_law_high.nd rfl (by first | exact Or.inl rfl | exact Or.inr rfl))) (xgs_cons (xg_name 4 (pg_name (i := 4) sc_law_high.nd rfl (by first | exact Or.inl rfl | exact Or.inr rfl))) xgs_nil))))) (fun _ _ _ _ _ => pts_u xts_nil) (fun _ _ _ _ _ => pe_u (xadd (xv 3) (xmul (xv 5) (xv 4))))) (xi_list (xv 0))))) ab_nil))))))
abbrev s_law_least : Stmt := topS 34
abbrev N_law_least : List Str := ["_law_periods_here", "_law_final_here"]
theorem sc_law_least : FnScope N_law_least ["_law_periods_here", "_law_final_here"] (defScope s_law_least) := ⟨rfl, rfl, rfl, by decide +kernel, rfl, by decide +kernel, by decide +kernel⟩
theorem ok_law_least {P : Program} {w : World} {K : PySem.W.Frag} {mg : Str → Option Value} {base : Heap} {ca : Nat → Addr} {a : Addr} {fd : FuncData} (F : Fun K "_law_least" "_law_least" s_law_least a fd) (B : Bl mg) (T : Tx P K mg ca) {a_law_costs : Addr} {fd_law_costs : FuncData} (C_law_costs : Df P w K mg base ca cfG 1 "_law_costs" a_law_costs fd_law_costs ["_law_periods_here"] .e f_law_costs)
    (B_law_costs : Binds K fd_law_costs ["_law_periods_here"] [])
    {a_law_high : Addr} {fd_law_high : FuncData} (C_law_high : Df P w K mg base ca cfG 1 "_law_high" a_law_high fd_law_high ["_law_periods_here", "_law_final_here"] .e f_law_high)
    (B_law_high : Binds K fd_law_high ["_law_periods_here", "_law_final_here"] []) : FnOk P w K mg base (L2.CX P w) 2 a fd ["_law_periods_here", "_law_final_here"] (SpF ca cfG .e 2 f_law_least) :=
  fn_body F sc_law_least fun cdv A outer s H E hr => by
    have hu := hr.units
    have tk0 := tk_of (P := P) (w := w) (K := K) (mg := mg) (base := base) (N := N_law_least) (qual := "_law_least") (sc := defScope s_law_least) (f := a) (cd := cdv) (A := A) (outer := outer) (s := s) (H := H) (E := E)
    have pa0 := pa_of (P := P) (w := w) (K := K) (mg := mg) (base := base) (N := N_law_least) (qual := "_law_least") (sc := defScope s_law_least) (f := a) (cd := cdv) (A := A) (outer := outer) (s := s) (H := H) (E := E)
    exact (xss_cons (xs_if (teq hu (XX.e_b (xv 1)) (XX.e_b xi))
  (xss_one (xs_ret (xix (XX.e_s (xcallE C_law_costs B_law_costs (hr.mono (by decide)) tk0 (ae_cons (xv 0) ae_nil))) (xneg xi))))
  xss_nil)
  (xss_one (xs_ret (xix (XX.e_s (xcallE C_law_costs B_law_costs (hr.mono (by decide)) tk0 (ae_cons (xadd (xv 0) (XX.o_e (xlst (ae_cons (xtup (ae_cons (xv 1) (ae_cons (xcallE C_law_high B_law_high (hr.mono (by decide)) tk0 (ae_cons (xv 0) (ae_cons (xv 1) ae_nil))) (ae_cons xi ae_nil)))) ae_nil)))) ae_nil))) (xneg xi)))))
abbrev s_law_same : Stmt := topS 35
abbrev N_law_same : List Str := ["_law_actual", "_law_due_here", "_law_k"]
theorem sc_law_same : FnScope N_law_same ["_law_actual", "_law_due_here"] (defScope s_law_same) := ⟨rfl, rfl, rfl, by decide +kernel, rfl, by decide +kernel, by decide +kernel⟩
theorem okr_law_same {P : Program} {w : World} {K : PySem.W.Frag} {mg : Str → Option Value} {base : Heap} {ca : Nat → Addr} {a : Addr} {fd : FuncData} (F : Fun K "_law_same" "_law_same" s_law_same a fd) (B : Bl mg) (T : Tx P K mg ca)  (gm : mg "_law_same" = some (.ref a)) (kp : PySem.W.keepIn K (.ref a) = true) (B_law_same : Binds K fd ["_law_actual", "_law_due_here"] []) : ∀ n, FnOk P w K mg base (L2.CX P w) (1 + n) a fd ["_law_actual", "_law_due_here"] (SpF ca cfG .e 2 (h_law_same n))
  | 0 => ok_stuck
  | n + 1 => by
    have C_law_same : Df P w K mg base ca cfG (1 + n) "_law_same" a fd ["_law_actual", "_law_due_here"] .e (h_law_same n) := ⟨okr_law_same F B T  gm kp B_law_same n, gm, kp, fun ds h => by
      cases n with
      | zero => rfl
      | succ n => exact runB_len ds h⟩
    exact fn_body F sc_law_same (fun cdv A outer s H E hr => by
    have hu := hr.units
    have tk0 := tk_of (P := P) (w := w) (K := K) (mg := mg) (base := base) (N := N_law_same) (qual := "_law_same") (sc := defScope s_law_same) (f := a) (cd := cdv) (A := A) (outer := outer) (s := s) (H := H) (E := E)
    have pa0 := pa_of (P := P) (w := w) (K := K) (mg := mg) (base := base) (N := N_law_same) (qual := "_law_same") (sc := defScope s_law_same) (f := a) (cd := cdv) (A := A) (outer := outer) (s := s) (H := H) (E := E)
    exact (xss_cons (xs_if (tisn (XX.e_b (xv 1)))
  (xss_one (xs_ret (xisn (XX.e_b (xv 0)))))
  xss_nil)
  (xss_cons (xs_if (tval (XX.e_b (xisT (T := "bool") B.b_isinstance (XX.e_b (xv 1)) B.b_bool (by decide +kernel))))
  (xss_one (xs_ret (xand (xisT (T := "bool") B.b_isinstance (XX.e_b (xv 0)) B.b_bool (by decide +kernel)) (xone (xeq hu (XX.e_b (xv 0)) (XX.e_b (xv 1)))))))
  xss_nil)
  (xss_cons (xs_if (tval (XX.e_b (xisT (T := "int") B.b_isinstance (XX.e_b (xv 1)) B.b_int (by decide +kernel))))
  (xss_one (xs_ret (xand (xisT (T := "int") B.b_isinstance (XX.e_b (xv 0)) B.b_int (by decide +kernel)) (xand (xnot (xisT (T := "bool") B.b_isinstance (XX.e_b (xv 0)) B.b_bool (by decide +kernel))) (xone (xeq hu (XX.e_b (xv 0)) (XX.e_b (xv 1))))))))
  xss_nil)
  (xss_cons (xs_if (XW.pt (wand (tval (XX.e_b (xisT (T := "list") B.b_isinstance (XX.e_b (xv 1)) B.b_list (by decide +kernel)))) (wand1 (tnot (tval (XX.e_b (xisT (T := "list") B.b_isinstance (XX.e_b (xv 0)) B.b_list (by decide +kernel))))))))
  (xss_one (xs_ret xbl))
  xss_nil)
  (xss_cons (xs_if (XW.pt (wand (tval (XX.e_b (xisT (T := "tuple") B.b_isinstance (XX.e_b (xv 1)) B.b_tuple (by decide +kernel)))) (wand1 (tnot (tval (XX.e_b (xisT (T := "tuple") B.b_isinstance (XX.e_b (xv 0)) B.b_tuple (by decide +kernel))))))))
  (xss_one (xs_ret xbl))
  xss_nil)
  (xss_cons (xs_if (tne hu (XX.e_b (xlen B.b_len (ab_cons (XX.e_b (xv 0)) ab_nil))) (XX.e_b (xlen B.b_len (ab_cons (XX.e_b (xv 1)) ab_nil))))
  (xss_one (xs_ret xbl))
  xss_nil)
  (xss_cons (xs_for (fun _ _ _ hi hg hb => ps_for pa0 rfl hi hg hb) (xi_range1 (fun _ h => pi_range1 rfl B.b_range h) (ab_cons (XX.e_b (xlen B.b_len (ab_cons (XX.e_b (xv 1)) ab_nil))) ab_nil)) (xg_name 2 (pg_name (i := 2) sc_law_same.nd rfl (by first | exact Or.inl rfl | exact Or.inr rfl)))
  (xss_one (xs_if (tnot (tval (XX.e_b (xcallE C_law_same B_law_same (hr.mono (by first | exact Nat.le_refl _ | omega)) tk0 (ae_cons (xix (XX.e_s (xv 0)) (xv 2)) (ae_cons (xix (XX.e_s (xv 1)) (xv 2)) ae_nil))))))
  (xss_one (xs_ret xbl))
  xss_nil)))
  (xss_one (xs_ret xbl))))))))))
theorem ok_law_same {P : Program} {w : World} {K : PySem.W.Frag} {mg : Str → Option Value} {base : Heap} {ca : Nat → Addr} {a : Addr} {fd : FuncData} (F : Fun K "_law_same" "_law_same" s_law_same a fd) (B : Bl mg) (T : Tx P K mg ca)  (gm : mg "_law_same" = some (.ref a)) (kp : PySem.W.keepIn K (.ref a) = true) (B_law_same : Binds K fd ["_law_actual", "_law_due_here"] []) : FnOk P w K mg base (L2.CX P w) 10 a fd ["_law_actual", "_law_due_here"] (SpF ca cfG .e 2 f_law_same) := okr_law_same F B T  gm kp B_law_same 9
abbrev s_law_lines : Stmt := topS 36
abbrev N_law_lines : List Str := ["_law_periods_here", "_law_costs_here", "_law_lines_here", "_law_start", "_law_base", "_law_rate", "_law_demand", "_law_setup", "_law_hold"]
theorem sc_law_lines : FnScope N_law_lines ["_law_periods_here"] (defScope s_law_lines) := ⟨rfl, rfl, rfl, by decide +kernel, rfl, by decide +kernel, by decide +kernel⟩
theorem ok_law_lines {P : Program} {w : World} {K : PySem.W.Frag} {mg : Str → Option Value} {base : Heap} {ca : Nat → Addr} {a : Addr} {fd : FuncData} (F : Fun K "_law_lines" "_law_lines" s_law_lines a fd) (B : Bl mg) (T : Tx P K mg ca) {a_law_costs : Addr} {fd_law_costs : FuncData} (C_law_costs : Df P w K mg base ca cfG 1 "_law_costs" a_law_costs fd_law_costs ["_law_periods_here"] .e f_law_costs)
    (B_law_costs : Binds K fd_law_costs ["_law_periods_here"] []) : FnOk P w K mg base (L2.CX P w) 2 a fd ["_law_periods_here"] (SpF ca cfG .e 1 f_law_lines) :=
  fn_body F sc_law_lines fun cdv A outer s H E hr => by
    have hu := hr.units
    have tk0 := tk_of (P := P) (w := w) (K := K) (mg := mg) (base := base) (N := N_law_lines) (qual := "_law_lines") (sc := defScope s_law_lines) (f := a) (cd := cdv) (A := A) (outer := outer) (s := s) (H := H) (E := E)
    have pa0 := pa_of (P := P) (w := w) (K := K) (mg := mg) (base := base) (N := N_law_lines) (qual := "_law_lines") (sc := defScope s_law_lines) (f := a) (cd := cdv) (A := A) (outer := outer) (s := s) (H := H) (E := E)
    exact (xss_cons (xs_set (fun _ h => ps_set (i := 1) sc_law_lines.nd rfl (by first | exact Or.inl rfl | exact Or.inr rfl) h) (xcallE C_law_costs B_law_costs (hr.mono (by decide)) tk0 (ae_cons (xv 0) ae_nil)))
  (xss_cons (xs_setO (fun _ h => ps_set (i := 2) sc_law_lines.nd rfl (by first | exact Or.inl rfl | exact Or.inr rfl) h) (xlst ae_nil))
  (xss_cons (xs_for (fun _ _ _ hi hg hb => ps_for pa0 rfl hi hg hb) (xi_range1 (fun _ h => pi_range1 rfl B.b_range h) (ab_cons (XX.e_b (xlen B.b_len (ab_cons (XX.e_b (xv 0)) ab_nil))) ab_nil)) (xg_name 3 (pg_name (i := 3) sc_law_lines.nd rfl (by first | exact Or.inl rfl | exact Or.inr rfl)))
  (xss_cons (xs_set (fun _ h => ps_set (i := 4) sc_law_lines.nd rfl (by first | exact Or.inl rfl | exact Or.inr rfl) h) (xadd (xix (XX.e_s (xv 1)) (xv 3)) (xix (XX.e_s (xix (XX.e_s (xv 0)) (xv 3))) xi)))
  (xss_cons (xs_set (fun _ h => ps_set (i := 5) sc_law_lines.nd rfl (by first | exact Or.inl rfl | exact Or.inr rfl) h) xi)
  (xss_cons (xs_for (fun _ _ _ hi hg hb => ps_for pa0 rfl hi hg hb) (xi_list (XX.o_e (xslice (XX.e_s (xv 0)) (xo_some (xv 3)) xo_none))) (xg_tup (fun _ h => pg_tup rfl h) rfl (xgs_cons (xg_name 6 (pg_name (i := 6) sc_law_lines.nd rfl (by first | exact Or.inl rfl | exact Or.inr rfl))) (xgs_cons (xg_name 7 (pg_name (i := 7) sc_law_lines.nd rfl (by first | exact Or.inl rfl | exact Or.inr rfl))) (xgs_cons (xg_name 8 (pg_name (i := 8) sc_law_lines.nd rfl (by first | exact Or.inl rfl | exact Or.inr rfl))) xgs_nil))))
  (xss_cons (xs_set (fun _ h => ps_set (i := 4) sc_law_lines.nd rfl (by first | exact Or.inl rfl | exact Or.inr rfl) h) (xadd (xv 4) (xmul (xv 5) (xv 6))))
  (xss_one (xs_set (fun _ h => ps_set (i := 5) sc_law_lines.nd rfl (by first | exact Or.inl rfl | exact Or.inr rfl) h) (xadd (xv 5) (xv 8))))))
  (xss_one (xs_append (i := 2) (fun _ h => ps_expr (pe_bm PySem.F.plainAttrs_list PySem.F.slot_list_append PySem.F.type_list_append mt_append (pv 2) h)) (ae_cons (xtup (ae_cons (xv 4) (ae_cons (xv 5) ae_nil))) ae_nil)))))))
  (xss_one (xs_fz 2 (xs_ret (xv 2)))))))
abbrev s_law_forced : Stmt := topS 37
abbrev N_law_forced : List Str := ["_law_periods_here", "_law_final_here", "_law_ceiling"]
theorem sc_law_forced : FnScope N_law_forced ["_law_periods_here", "_law_final_here", "_law_ceiling"] (defScope s_law_forced) := ⟨rfl, rfl, rfl, by decide +kernel, rfl, by decide +kernel, by decide +kernel⟩
theorem ok_law_forced {P : Program} {w : World} {K : PySem.W.Frag} {mg : Str → Option Value} {base : Heap} {ca : Nat → Addr} {a : Addr} {fd : FuncData} (F : Fun K "_law_forced" "_law_forced" s_law_forced a fd) (B : Bl mg) (T : Tx P K mg ca) {a_law_costs : Addr} {fd_law_costs : FuncData} (C_law_costs : Df P w K mg base ca cfG 1 "_law_costs" a_law_costs fd_law_costs ["_law_periods_here"] .e f_law_costs)
    (B_law_costs : Binds K fd_law_costs ["_law_periods_here"] [])
    {a_law_least : Addr} {fd_law_least : FuncData} (C_law_least : Df P w K mg base ca cfG 2 "_law_least" a_law_least fd_law_least ["_law_periods_here", "_law_final_here"] .e f_law_least)
    (B_law_least : Binds K fd_law_least ["_law_periods_here", "_law_final_here"] []) : FnOk P w K mg base (L2.CX P w) 3 a fd ["_law_periods_here", "_law_final_here", "_law_ceiling"] (SpF ca cfG .e 3 f_law_forced) :=
  fn_body F sc_law_forced fun cdv A outer s H E hr => by
    have hu := hr.units
    have tk0 := tk_of (P := P) (w := w) (K := K) (mg := mg) (base := base) (N := N_law_forced) (qual := "_law_forced") (sc := defScope s_law_forced) (f := a) (cd := cdv) (A := A) (outer := outer) (s := s) (H := H) (E := E)
    have pa0 := pa_of (P := P) (w := w) (K := K) (mg := mg) (base := base) (N := N_law_forced) (qual := "_law_forced") (sc := defScope s_law_forced) (f := a) (cd := cdv) (A := A) (outer := outer) (s := s) (H := H) (E := E)
    exact (xss_cons (xs_if (XW.pt (wor (teq hu (XX.e_b (xv 1)) (XX.e_b xi)) (wor1 (tisn (XX.e_b (xv 2))))))
  (xss_one (xs_ret xbl))
  xss_nil)
  (xss_one (xs_ret (xlt (xcallE C_law_least B_law_least (hr.mono (by decide)) tk0 (ae_cons (xv 0) (ae_cons (xv 1) ae_nil))) (xadd (xix (XX.e_s (xcallE C_law_costs B_law_costs (hr.mono (by decide)) tk0 (ae_cons (xv 0) ae_nil))) (xneg xi)) (xv 2))))))
abbrev s_law_quiet : Stmt := topS 38
abbrev N_law_quiet : List Str := ["_law_rows", "_law_many", "_law_k"]
theorem sc_law_quiet : FnScope N_law_quiet ["_law_rows", "_law_many"] (defScope s_law_quiet) := ⟨rfl, rfl, rfl, by decide +kernel, rfl, by decide +kernel, by decide +kernel⟩
theorem ok_law_quiet {P : Program} {w : World} {K : PySem.W.Frag} {mg : Str → Option Value} {base : Heap} {ca : Nat → Addr} {a : Addr} {fd : FuncData} (F : Fun K "_law_quiet" "_law_quiet" s_law_quiet a fd) (B : Bl mg) (T : Tx P K mg ca)  : FnOk P w K mg base (L2.CX P w) 1 a fd ["_law_rows", "_law_many"] (SpF ca cfG .e 2 f_law_quiet) :=
  fn_body F sc_law_quiet fun cdv A outer s H E hr => by
    have hu := hr.units
    have tk0 := tk_of (P := P) (w := w) (K := K) (mg := mg) (base := base) (N := N_law_quiet) (qual := "_law_quiet") (sc := defScope s_law_quiet) (f := a) (cd := cdv) (A := A) (outer := outer) (s := s) (H := H) (E := E)
    have pa0 := pa_of (P := P) (w := w) (K := K) (mg := mg) (base := base) (N := N_law_quiet) (qual := "_law_quiet") (sc := defScope s_law_quiet) (f := a) (cd := cdv) (A := A) (outer := outer) (s := s) (H := H) (E := E)
    exact (xss_one (xs_ret (xadd (XX.o_e (xcomp (is := [2]) (vs := [2]) (by decide) (fun _ hi => pe_lc (own := [("_law_k", 2)]) rfl sc_law_quiet.nd hi (blkOk_by (own := [("_law_k", 2)]) (N := N_law_quiet) (sc := defScope s_law_quiet) (by decide +kernel)) (fun _ _ _ _ _ => pg_u (xg_name 2 (pg_name (i := 2) sc_law_quiet.nd rfl (by first | exact Or.inl rfl | exact Or.inr rfl)))) (fun _ _ _ _ _ => pts_u xts_nil) (fun _ _ _ _ _ => pe_u (xtup (ae_cons xi (ae_cons (xix (XX.e_s (xix (XX.e_s (xv 0)) (xv 2))) xi) (ae_cons (xix (XX.e_s (xix (XX.e_s (xv 0)) (xv 2))) xi) ae_nil)))))) (xi_range1 (fun _ h => pi_range1 rfl B.b_range h) (ab_cons (XX.e_b (xv 1)) ab_nil)))) (XX.o_e (xslice (XX.e_s (xv 0)) (xo_some (xv 1)) xo_none)))))
abbrev s_law_edge : Stmt := topS 39
abbrev N_law_edge : List Str := ["_law_rows", "_law_ceiling", "_law_limit", "_law_base", "_law_rate"]
theorem sc_law_edge : FnScope N_law_edge ["_law_rows", "_law_ceiling"] (defScope s_law_edge) := ⟨rfl, rfl, rfl, by decide +kernel, rfl, by decide +kernel, by decide +kernel⟩
theorem ok_law_edge {P : Program} {w : World} {K : PySem.W.Frag} {mg : Str → Option Value} {base : Heap} {ca : Nat → Addr} {a : Addr} {fd : FuncData} (F : Fun K "_law_edge" "_law_edge" s_law_edge a fd) (B : Bl mg) (T : Tx P K mg ca) {a_law_costs : Addr} {fd_law_costs : FuncData} (C_law_costs : Df P w K mg base ca cfG 1 "_law_costs" a_law_costs fd_law_costs ["_law_periods_here"] .e f_law_costs)
    (B_law_costs : Binds K fd_law_costs ["_law_periods_here"] [])
    {a_law_lines : Addr} {fd_law_lines : FuncData} (C_law_lines : Df P w K mg base ca cfG 2 "_law_lines" a_law_lines fd_law_lines ["_law_periods_here"] .e f_law_lines)
    (B_law_lines : Binds K fd_law_lines ["_law_periods_here"] []) : FnOk P w K mg base (L2.CX P w) 3 a fd ["_law_rows", "_law_ceiling"] (SpF ca cfG .e 2 f_law_edge) :=
  fn_body F sc_law_edge fun cdv A outer s H E hr => by
    have hu := hr.units
    have tk0 := tk_of (P := P) (w := w) (K := K) (mg := mg) (base := base) (N := N_law_edge) (qual := "_law_edge") (sc := defScope s_law_edge) (f := a) (cd := cdv) (A := A) (outer := outer) (s := s) (H := H) (E := E)
    have pa0 := pa_of (P := P) (w := w) (K := K) (mg := mg) (base := base) (N := N_law_edge) (qual := "_law_edge") (sc := defScope s_law_edge) (f := a) (cd := cdv) (A := A) (outer := outer) (s := s) (H := H) (E := E)
    exact (xss_cons (xs_set (fun _ h => ps_set (i := 2) sc_law_edge.nd rfl (by first | exact Or.inl rfl | exact Or.inr rfl) h) (xsub (xadd (xix (XX.e_s (xcallE C_law_costs B_law_costs (hr.mono (by decide)) tk0 (ae_cons (xv 0) ae_nil))) (xneg xi)) (xv 1)) xi))
  (xss_one (xs_ret (xmax rfl B.b_max (ab_cons (XX.e_b (xadd (XX.o_e (xlst (ae_cons xi ae_nil))) (XX.o_e (xcomp (is := [3, 4]) (vs := [3, 4]) (by decide) (fun _ hi => pe_lc (own := [("_law_base", 3), ("_law_rate", 4)]) rfl sc_law_edge.nd hi (blkOk_by (own := [("_law_base", 3), ("_law_rate", 4)]) (N := N_law_edge) (sc := defScope s_law_edge) (by decide +kernel)) (fun _ _ _ _ _ => pg_u (xg_tup (fun _ h => pg_tup rfl h) rfl (xgs_cons (xg_name 3 (pg_name (i := 3) sc_law_edge.nd rfl (by first | exact Or.inl rfl | exact Or.inr rfl))) (xgs_cons (xg_name 4 (pg_name (i := 4) sc_law_edge.nd rfl (by first | exact Or.inl rfl | exact Or.inr rfl))) xgs_nil)))) (fun _ _ _ _ _ => pts_u xts_nil) (fun _ _ _ _ _ => pe_u (xdiv (xsub (xv 2) (xv 3)) (xv 4)))) (xi_list (xcallE C_law_lines B_law_lines (hr.mono (by decide)) tk0 (ae_cons (xv 0) ae_nil))))))) ab_nil)))))
abbrev s_law_final : Stmt := topS 40
abbrev N_law_final : List Str := ["_law_rows", "_law_ceiling", "_law_number_here", "_law_way", "_law_left"]
theorem sc_law_final : FnScope N_law_final ["_law_rows", "_law_ceiling", "_law_number_here"] (defScope s_law_final) := ⟨rfl, rfl, rfl, by decide +kernel, rfl, by decide +kernel, by decide +kernel⟩
theorem ok_law_final {P : Program} {w : World} {K : PySem.W.Frag} {mg : Str → Option Value} {base : Heap} {ca : Nat → Addr} {a : Addr} {fd : FuncData} (F : Fun K "_law_final" "_law_final" s_law_final a fd) (B : Bl mg) (T : Tx P K mg ca) {a_law_edge : Addr} {fd_law_edge : FuncData} (C_law_edge : Df P w K mg base ca cfG 3 "_law_edge" a_law_edge fd_law_edge ["_law_rows", "_law_ceiling"] .e f_law_edge)
    (B_law_edge : Binds K fd_law_edge ["_law_rows", "_law_ceiling"] []) : FnOk P w K mg base (L2.CX P w) 4 a fd ["_law_rows", "_law_ceiling", "_law_number_here"] (SpF ca cfG .e 3 f_law_final_k12) :=
  fn_body F sc_law_final fun cdv A outer s H E hr => by
    have hu := hr.units
    have tk0 := tk_of (P := P) (w := w) (K := K) (mg := mg) (base := base) (N := N_law_final) (qual := "_law_final") (sc := defScope s_law_final) (f := a) (cd := cdv) (A := A) (outer := outer) (s := s) (H := H) (E := E)
    have pa0 := pa_of (P := P) (w := w) (K := K) (mg := mg) (base := base) (N := N_law_final) (qual := "_law_final") (sc := defScope s_law_final) (f := a) (cd := cdv) (A := A) (outer := outer) (s := s) (H := H) (E := E)
    exact (xss_cons (xs_set (fun _ h => ps_set (i := 3) sc_law_final.nd rfl (by first | exact Or.inl rfl | exact Or.inr rfl) h) (xmod (xint B.b_int (ab_cons (XX.e_b (xv 2)) ab_nil)) xi))
  (xss_cons (xs_set (fun _ h => ps_set (i := 4) sc_law_final.nd rfl (by first | exact Or.inl rfl | exact Or.inr rfl) h) (xdiv (xv 2) xi))
  (xss_cons (xs_if (XW.pt (wand (tlt (xv 3) xi) (wand1 (tnotn (XX.e_b (xv 1))))))
  (xss_one (xs_ret (xmax2 rfl B.b_max (ab_cons (XX.e_b xi) (ab_cons (XX.e_b (xadd (xsub (xcallE C_law_edge B_law_edge (hr.mono (by decide)) tk0 (ae_cons (xv 0) (ae_cons (xv 1) ae_nil))) xi) (xv 3))) ab_nil)))))
  xss_nil)
  (xss_cons (xs_if (teq hu (XX.e_b (xv 3)) (XX.e_b xi))
  (xss_one (xs_ret xi))
  xss_nil)
  (xss_cons (xs_if (teq hu (XX.e_b (xv 3)) (XX.e_b xi))
  (xss_one (xs_ret (xmod (xint B.b_int (ab_cons (XX.e_b (xv 4)) ab_nil)) xi)))
  xss_nil)
  (xss_cons (xs_if (teq hu (XX.e_b (xv 3)) (XX.e_b xi))
  (xss_one (xs_ret (xmod (xint B.b_int (ab_cons (XX.e_b (xv 4)) ab_nil)) xi)))
  xss_nil)
  (xss_one (xs_ret (xmod (xint B.b_int (ab_cons (XX.e_b (xv 4)) ab_nil)) (xpow (m := 10) (n := 60) ⟨by decide, by decide, by decide⟩))))))))))
abbrev s_law_due : Stmt := topS 41
abbrev N_law_due : List Str := ["_law_rows", "_law_final_here", "_law_ceiling"]
theorem sc_law_due : FnScope N_law_due ["_law_rows", "_law_final_here", "_law_ceiling"] (defScope s_law_due) := ⟨rfl, rfl, rfl, by decide +kernel, rfl, by decide +kernel, by decide +kernel⟩
theorem ok_law_due {P : Program} {w : World} {K : PySem.W.Frag} {mg : Str → Option Value} {base : Heap} {ca : Nat → Addr} {a : Addr} {fd : FuncData} (F : Fun K "_law_due" "_law_due" s_law_due a fd) (B : Bl mg) (T : Tx P K mg ca) {a_law_least : Addr} {fd_law_least : FuncData} (C_law_least : Df P w K mg base ca cfG 2 "_law_least" a_law_least fd_law_least ["_law_periods_here", "_law_final_here"] .e f_law_least)
    (B_law_least : Binds K fd_law_least ["_law_periods_here", "_law_final_here"] [])
    {a_law_forced : Addr} {fd_law_forced : FuncData} (C_law_forced : Df P w K mg base ca cfG 3 "_law_forced" a_law_forced fd_law_forced ["_law_periods_here", "_law_final_here", "_law_ceiling"] .e f_law_forced)
    (B_law_forced : Binds K fd_law_forced ["_law_periods_here", "_law_final_here", "_law_ceiling"] []) : FnOk P w K mg base (L2.CX P w) 4 a fd ["_law_rows", "_law_final_here", "_law_ceiling"] (SpF ca cfG .e 3 f_law_due_k12) :=
  fn_body F sc_law_due fun cdv A outer s H E hr => by
    have hu := hr.units
    have tk0 := tk_of (P := P) (w := w) (K := K) (mg := mg) (base := base) (N := N_law_due) (qual := "_law_due") (sc := defScope s_law_due) (f := a) (cd := cdv) (A := A) (outer := outer) (s := s) (H := H) (E := E)
    have pa0 := pa_of (P := P) (w := w) (K := K) (mg := mg) (base := base) (N := N_law_due) (qual := "_law_due") (sc := defScope s_law_due) (f := a) (cd := cdv) (A := A) (outer := outer) (s := s) (H := H) (E := E)
    exact (xss_cons (xs_if (teq hu (XX.e_b (xlen B.b_len (ab_cons (XX.e_b (xv 0)) ab_nil))) (XX.e_b xi))
  (xss_one (xs_ret (xtup (ae_cons xi (ae_cons xbl ae_nil)))))
  xss_nil)
  (xss_cons (xs_if (tlt (xv 1) xi)
  (xss_one (xs_ret (xtup (ae_cons xi (ae_cons xbl ae_nil)))))
  xss_nil)
  (xss_cons (xs_if (teq hu (XX.e_b (xv 1)) (XX.e_b xi))
  (xss_one (xs_ret (xtup (ae_cons xi (ae_cons (XX.o_e (xlst ae_nil)) ae_nil)))))
  xss_nil)
  (xss_cons (xs_if (tnot (tval (XX.e_b (xcallE C_law_forced B_law_forced (hr.mono (by decide)) tk0 (ae_cons (xv 0) (ae_cons (xv 1) (ae_cons (xv 2) ae_nil)))))))
  (xss_one (xs_ret (xtup (ae_cons xi (ae_cons xbl ae_nil)))))
  xss_nil)
  (xss_cons (xs_if (tisn (XX.e_b (xv 2)))
  (xss_one (xs_ret (xtup (ae_cons xi (ae_cons (XX.o_e (xlst (ae_cons (xtup (ae_cons (xv 1) (ae_cons (xadd (xcallE C_law_least B_law_least (hr.mono (by decide)) tk0 (ae_cons (xv 0) (ae_cons (xv 1) ae_nil))) xi) (ae_cons xi ae_nil)))) ae_nil))) ae_nil)))))
  xss_nil)
  (xss_one (xs_ret (xtup (ae_cons xi (ae_cons (XX.o_e (xlst (ae_cons (xtup (ae_cons (xv 1) (ae_cons (xv 2) (ae_cons xi ae_nil)))) ae_nil))) ae_nil))))))))))
abbrev s_law_told : Stmt := topS 42
abbrev N_law_told : List Str := ["_law_rows", "_law_final_here", "_law_ceiling", "_law_named", "negative", "_law_based", "beyond", "_law_others", "empty"]
theorem sc_law_told : FnScope N_law_told ["_law_rows", "_law_final_here", "_law_ceiling", "_law_named"] (defScope s_law_told) := ⟨rfl, rfl, rfl, by decide +kernel, rfl, by decide +kernel, by decide +kernel⟩
theorem ok_law_told {P : Program} {w : World} {K : PySem.W.Frag} {mg : Str → Option Value} {base : Heap} {ca : Nat → Addr} {a : Addr} {fd : FuncData} (F : Fun K "_law_told" "_law_told" s_law_told a fd) (B : Bl mg) (T : Tx P K mg ca) {a_standard_continuation : Addr} {fd_standard_continuation : FuncData} (C_standard_continuation : Df P w K mg base ca cfG 5 "standard_continuation" a_standard_continuation fd_standard_continuation ["periods", "ending", "cap"] .o f_standard_continuation)
    (D_standard_continuation : BindD K fd_standard_continuation ["periods", "ending", "cap"] .none)
    (K_standard_continuation : BindK K fd_standard_continuation ["periods", "ending", "cap"] "cap") : FnOk P w K mg base (L2.CX P w) 6 a fd ["_law_rows", "_law_final_here", "_law_ceiling", "_law_named"] (SpF ca cfG (.w (.c .g (.r (.r .g)))) 4 f_law_told_k12) :=
  fn_body F sc_law_told fun cdv A outer s H E hr => by
    have hu := hr.units
    have tk0 := tk_of (P := P) (w := w) (K := K) (mg := mg) (base := base) (N := N_law_told) (qual := "_law_told") (sc := defScope s_law_told) (f := a) (cd := cdv) (A := A) (outer := outer) (s := s) (H := H) (E := E)
    have pa0 := pa_of (P := P) (w := w) (K := K) (mg := mg) (base := base) (N := N_law_told) (qual := "_law_told") (sc := defScope s_law_told) (f := a) (cd := cdv) (A := A) (outer := outer) (s := s) (H := H) (E := E)
    exact (xss_one (xs_try rfl rfl tk0 rfl T.sub (fun W pn xe tk pa => (xss_cons (xs_if (ttru (XX.e_b (xv 3)))
  (xss_one (xs_ret (xtupW rfl (aw_con (XX.e_w xi) (aw_rep (XX.o_w (xcallKO C_standard_continuation K_standard_continuation (hr.mono (by decide)) tk (ae_cons (xv 0) (ae_cons (xv 1) ae_nil)) (xv 2))) aw_nil)))))
  xss_nil)
  (xss_one (xs_ret (xtupW rfl (aw_con (XX.e_w xi) (aw_rep (XX.o_w (xcallDO C_standard_continuation D_standard_continuation (hr.mono (by decide)) tk (ae_cons (xv 0) (ae_cons (xv 1) ae_nil)))) aw_nil)))))))
  (.named sc_law_told.nd (i := 4) rfl rfl ⟨rfl, by decide, .inl T.gm_InvalidEnding⟩ (fun a oe cls d pn hz hf => (xss_cons (xs_set (fun _ h => ps_set (i := 5) sc_law_told.nd rfl (by first | exact Or.inl rfl | exact Or.inr rfl) h) (xand (xisEX (cvV := .ref (ca 11)) B.b_isinstance T.ec_InvalidEnding hz hf (pv 4) (pe_glob rfl (by exact T.gm_PlanError) (by exact rfl)) (fun u h => h) T.kt_InvalidEnding_PlanError) (xone (xisEX (cvV := .ty "ValueError") B.b_isinstance T.ec_InvalidEnding hz hf (pv 4) (pe_bltn (u := .type "ValueError") rfl B.b_ValueError (by first | boot_by_name | rfl | decide +kernel) (by exact rfl)) (fun u h => h) T.kt_InvalidEnding_ValueError))))
  (xss_one (xs_ret (xtupW rfl (aw_con (XX.e_w xi) (aw_rep (xw_sc (xand (xv 5) (xand (xnot (xisEX (cvV := .ref (ca 8)) B.b_isinstance T.ec_InvalidEnding hz hf (pv 4) (pe_glob rfl (by exact T.gm_NotForced) (by exact rfl)) (fun u h => h) T.kt_InvalidEnding_NotForced)) (xone (xnot (xisEX (cvV := .ref (ca 2)) B.b_isinstance T.ec_InvalidEnding hz hf (pv 4) (pe_glob rfl (by exact T.gm_NoPeriods) (by exact rfl)) (fun u h => h) T.kt_InvalidEnding_NoPeriods)))))) aw_nil))))))) (.named sc_law_told.nd (i := 6) rfl rfl ⟨rfl, by decide, .inl T.gm_NotForced⟩ (fun a oe cls d pn hz hf => (xss_cons (xs_set (fun _ h => ps_set (i := 5) sc_law_told.nd rfl (by first | exact Or.inl rfl | exact Or.inr rfl) h) (xand (xisEX (cvV := .ref (ca 11)) B.b_isinstance T.ec_NotForced hz hf (pv 6) (pe_glob rfl (by exact T.gm_PlanError) (by exact rfl)) (fun u h => h) T.kt_NotForced_PlanError) (xone (xisEX (cvV := .ty "ValueError") B.b_isinstance T.ec_NotForced hz hf (pv 6) (pe_bltn (u := .type "ValueError") rfl B.b_ValueError (by first | boot_by_name | rfl | decide +kernel) (by exact rfl)) (fun u h => h) T.kt_NotForced_ValueError))))
  (xss_cons (xs_set (fun _ h => ps_set (i := 7) sc_law_told.nd rfl (by first | exact Or.inl rfl | exact Or.inr rfl) h) (XX.o_e (xlst (ae_cons (xisEX (cvV := .ref (ca 2)) B.b_isinstance T.ec_NotForced hz hf (pv 6) (pe_glob rfl (by exact T.gm_NoPeriods) (by exact rfl)) (fun u h => h) T.kt_NotForced_NoPeriods) (ae_cons (xisEX (cvV := .ref (ca 7)) B.b_isinstance T.ec_NotForced hz hf (pv 6) (pe_glob rfl (by exact T.gm_InvalidEnding) (by exact rfl)) (fun u h => h) T.kt_NotForced_InvalidEnding) ae_nil)))))
  (xss_cons (xs_set (fun _ h => ps_set (i := 7) sc_law_told.nd rfl (by first | exact Or.inl rfl | exact Or.inr rfl) h) (xadd (xv 7) (XX.o_e (xlst (ae_cons (xisEX (cvV := .ref (ca 0)) B.b_isinstance T.ec_NotForced hz hf (pv 6) (pe_glob rfl (by exact T.gm_InvalidPeriod) (by exact rfl)) (fun u h => h) T.kt_NotForced_InvalidPeriod) (ae_cons (xisEX (cvV := .ref (ca 1)) B.b_isinstance T.ec_NotForced hz hf (pv 6) (pe_glob rfl (by exact T.gm_SetupAboveCap) (by exact rfl)) (fun u h => h) T.kt_NotForced_SetupAboveCap) ae_nil))))))
  (xss_cons (xs_set (fun _ h => ps_set (i := 7) sc_law_told.nd rfl (by first | exact Or.inl rfl | exact Or.inr rfl) h) (xadd (xv 7) (XX.o_e (xlst (ae_cons (xisEX (cvV := .ref (ca 3)) B.b_isinstance T.ec_NotForced hz hf (pv 6) (pe_glob rfl (by exact T.gm_TooManyOrders) (by exact rfl)) (fun u h => h) T.kt_NotForced_TooManyOrders) (ae_cons (xisEX (cvV := .ref (ca 4)) B.b_isinstance T.ec_NotForced hz hf (pv 6) (pe_glob rfl (by exact T.gm_InvalidOrder) (by exact rfl)) (fun u h => h) T.kt_NotForced_InvalidOrder) ae_nil))))))
  (xss_cons (xs_set (fun _ h => ps_set (i := 7) sc_law_told.nd rfl (by first | exact Or.inl rfl | exact Or.inr rfl) h) (xadd (xv 7) (XX.o_e (xlst (ae_cons (xisEX (cvV := .ref (ca 5)) B.b_isinstance T.ec_NotForced hz hf (pv 6) (pe_glob rfl (by exact T.gm_Shortage) (by exact rfl)) (fun u h => h) T.kt_NotForced_Shortage) (ae_cons (xisEX (cvV := .ref (ca 6)) B.b_isinstance T.ec_NotForced hz hf (pv 6) (pe_glob rfl (by exact T.gm_Excess) (by exact rfl)) (fun u h => h) T.kt_NotForced_Excess) ae_nil))))))
  (xss_cons (xs_set (fun _ h => ps_set (i := 7) sc_law_told.nd rfl (by first | exact Or.inl rfl | exact Or.inr rfl) h) (xadd (xv 7) (XX.o_e (xlst (ae_cons (xisEX (cvV := .ref (ca 9)) B.b_isinstance T.ec_NotForced hz hf (pv 6) (pe_glob rfl (by exact T.gm_NotSafe) (by exact rfl)) (fun u h => h) T.kt_NotForced_NotSafe) (ae_cons (xisEX (cvV := .ref (ca 10)) B.b_isinstance T.ec_NotForced hz hf (pv 6) (pe_glob rfl (by exact T.gm_Finished) (by exact rfl)) (fun u h => h) T.kt_NotForced_Finished) ae_nil))))))
  (xss_one (xs_ret (xtupW rfl (aw_con (XX.e_w xi) (aw_rep (xw_sc (xand (xv 5) (xone (xnin (XX.e_b xbl) (XX.e_b (xv 7)))))) aw_nil)))))))))))) (.named sc_law_told.nd (i := 8) rfl rfl ⟨rfl, by decide, .inl T.gm_NoPeriods⟩ (fun a oe cls d pn hz hf => (xss_one (xs_ret (xtupW rfl (aw_con (XX.e_w xi) (aw_rep (xw_sc (xand (xisEX (cvV := .ref (ca 11)) B.b_isinstance T.ec_NoPeriods hz hf (pv 8) (pe_glob rfl (by exact T.gm_PlanError) (by exact rfl)) (fun u h => h) T.kt_NoPeriods_PlanError) (xone (xisEX (cvV := .ty "ValueError") B.b_isinstance T.ec_NoPeriods hz hf (pv 8) (pe_bltn (u := .type "ValueError") rfl B.b_ValueError (by first | boot_by_name | rfl | decide +kernel) (by exact rfl)) (fun u h => h) T.kt_NoPeriods_ValueError)))) aw_nil)))))) .nil)))))
abbrev s_law_right : Stmt := topS 43
abbrev N_law_right : List Str := ["_law_rows", "_law_final_here", "_law_ceiling", "_law_due_here", "_law_passed", "_law_turn", "_law_told_here", "_law_actual"]
theorem sc_law_right : FnScope N_law_right ["_law_rows", "_law_final_here", "_law_ceiling"] (defScope s_law_right) := ⟨rfl, rfl, rfl, by decide +kernel, rfl, by decide +kernel, by decide +kernel⟩
theorem ok_law_right {P : Program} {w : World} {K : PySem.W.Frag} {mg : Str → Option Value} {base : Heap} {ca : Nat → Addr} {a : Addr} {fd : FuncData} (F : Fun K "_law_right" "_law_right" s_law_right a fd) (B : Bl mg) (T : Tx P K mg ca) {a_law_same : Addr} {fd_law_same : FuncData} (C_law_same : Df P w K mg base ca cfG 10 "_law_same" a_law_same fd_law_same ["_law_actual", "_law_due_here"] .e f_law_same)
    (B_law_same : Binds K fd_law_same ["_law_actual", "_law_due_here"] [])
    {a_law_due : Addr} {fd_law_due : FuncData} (C_law_due : Df P w K mg base ca cfG 4 "_law_due" a_law_due fd_law_due ["_law_rows", "_law_final_here", "_law_ceiling"] .e f_law_due_k12)
    (B_law_due : Binds K fd_law_due ["_law_rows", "_law_final_here", "_law_ceiling"] [])
    {a_law_told : Addr} {fd_law_told : FuncData} (C_law_told : Df P w K mg base ca cfG 6 "_law_told" a_law_told fd_law_told ["_law_rows", "_law_final_here", "_law_ceiling", "_law_named"] (.w (.c .g (.r (.r .g)))) f_law_told_k12)
    (B_law_told : Binds K fd_law_told ["_law_rows", "_law_final_here", "_law_ceiling", "_law_named"] []) : FnOk P w K mg base (L2.CX P w) 11 a fd ["_law_rows", "_law_final_here", "_law_ceiling"] (SpF ca cfG .e 3 f_law_right_k12) :=
  fn_body F sc_law_right fun cdv A outer s H E hr => by
    have hu := hr.units
    have tk0 := tk_of (P := P) (w := w) (K := K) (mg := mg) (base := base) (N := N_law_right) (qual := "_law_right") (sc := defScope s_law_right) (f := a) (cd := cdv) (A := A) (outer := outer) (s := s) (H := H) (E := E)
    have pa0 := pa_of (P := P) (w := w) (K := K) (mg := mg) (base := base) (N := N_law_right) (qual := "_law_right") (sc := defScope s_law_right) (f := a) (cd := cdv) (A := A) (outer := outer) (s := s) (H := H) (E := E)
    exact (xss_cons (xs_set (fun _ h => ps_set (i := 3) sc_law_right.nd rfl (by first | exact Or.inl rfl | exact Or.inr rfl) h) (xcallE C_law_due B_law_due (hr.mono (by decide)) tk0 (ae_cons (xv 0) (ae_cons (xv 1) (ae_cons (xv 2) ae_nil)))))
  (xss_cons (xs_set (fun _ h => ps_set (i := 4) sc_law_right.nd rfl (by first | exact Or.inl rfl | exact Or.inr rfl) h) (XX.o_e (xlist B.b_list (XX.e_s (xv 0)))))
  (xss_cons (xs_for (fun _ _ _ hi hg hb => ps_for pa0 rfl hi hg hb) (xi_range1 (fun _ h => pi_range1 rfl B.b_range h) (ab_cons (XX.e_b xi) ab_nil)) (xg_name 5 (pg_name (i := 5) sc_law_right.nd rfl (by first | exact Or.inl rfl | exact Or.inr rfl)))
  (xss_cons (xs_setW (fun _ h => ps_set (i := 6) sc_law_right.nd rfl (by first | exact Or.inl rfl | exact Or.inr rfl) h) (xcallW C_law_told B_law_told (hr.mono (by decide)) tk0 (ae_cons (xv 4) (ae_cons (xv 1) (ae_cons (xv 2) (ae_cons xbl ae_nil))))))
  (xss_cons (xs_if (XW.pt (wor (tnot (tval (xcallB C_law_same B_law_same (hr.mono (by decide)) tk0 (ab_cons (xbt 6) (ab_cons (XX.e_b (xv 3)) ab_nil))))) (wor1 (tnot (tval (XX.e_b (xcallE C_law_same B_law_same (hr.mono (by decide)) tk0 (ae_cons (xv 4) (ae_cons (xv 0) ae_nil)))))))))
  (xss_one (xs_ret xbl))
  xss_nil)
  (xss_one (xs_if (teq hu (XX.e_b (xix (XX.e_s (xv 3)) xi)) (XX.e_b xi))
  (xss_cons (xs_take (i := 6) (j := 7) (fun _ h => ps_set (i := 7) sc_law_right.nd rfl (by first | exact Or.inl rfl | exact Or.inr rfl) (pe_ix (ix_list.or ix_tup) (pv 6) h (fun _ _ => rfl))) xi)
  (xss_one (xs_append (i := 7) (fun _ h => ps_expr (pe_bm PySem.F.plainAttrs_list PySem.F.slot_list_append PySem.F.type_list_append mt_append (pv 7) h)) (ae_cons (xtup (ae_cons xi (ae_cons xi (ae_cons xi ae_nil)))) ae_nil))))
  xss_nil)))))
  (xss_cons (xs_if (tnotn (XX.e_b (xv 2)))
  (xss_one (xs_ret (xcallE C_law_same B_law_same (hr.mono (by decide)) tk0 (ae_cons (xv 4) (ae_cons (xv 0) ae_nil)))))
  xss_nil)
  (xss_one (xs_ret (xand (xcallE C_law_same B_law_same (hr.mono (by decide)) tk0 (ae_cons (XX.w_e rfl (xcallW C_law_told B_law_told (hr.mono (by decide)) tk0 (ae_cons (xv 4) (ae_cons (xv 1) (ae_cons xn (ae_cons xbl ae_nil)))))) (ae_cons (xv 3) ae_nil))) (xone (xcallE C_law_same B_law_same (hr.mono (by decide)) tk0 (ae_cons (xv 4) (ae_cons (xv 0) ae_nil)))))))))))
abbrev s_law : Stmt := topS 44
abbrev N_law : List Str := ["_law_script", "_law_scale", "_law_known", "_law_later", "_law_choice", "_law_count", "_law_rows", "_law_left", "_law_ceiling", "_law_final_here"]
theorem sc_law : FnScope N_law ["_law_script"] (defScope s_law) := ⟨rfl, rfl, rfl, by decide +kernel, rfl, by decide +kernel, by decide +kernel⟩
theorem ok_law {P : Program} {w : World} {K : PySem.W.Frag} {mg : Str → Option Value} {base : Heap} {ca : Nat → Addr} {a : Addr} {fd : FuncData} (F : Fun K "law" "law" s_law a fd) (B : Bl mg) (T : Tx P K mg ca) {a_law_number : Addr} {fd_law_number : FuncData} (C_law_number : Df P w K mg base ca cfG 2 "_law_number" a_law_number fd_law_number ["_law_script", "_law_k"] .e f_law_number)
    (B_law_number : Binds K fd_law_number ["_law_script", "_law_k"] [])
    {a_law_periods : Addr} {fd_law_periods : FuncData} (C_law_periods : Df P w K mg base ca cfG 3 "_law_periods" a_law_periods fd_law_periods ["_law_script", "_law_start", "_law_count", "_law_scale"] .o f_law_periods)
    (B_law_periods : Binds K fd_law_periods ["_law_script", "_law_start", "_law_count", "_law_scale"] [])
    {a_law_shape : Addr} {fd_law_shape : FuncData} (C_law_shape : Df P w K mg base ca cfG 2 "_law_shape" a_law_shape fd_law_shape ["_law_script", "_law_most"] .e f_law_shape)
    (B_law_shape : Binds K fd_law_shape ["_law_script", "_law_most"] [])
    {a_law_cap : Addr} {fd_law_cap : FuncData} (C_law_cap : Df P w K mg base ca cfG 3 "_law_cap" a_law_cap fd_law_cap ["_law_script", "_law_scale"] .e f_law_cap)
    (B_law_cap : Binds K fd_law_cap ["_law_script", "_law_scale"] [])
    {a_law_quiet : Addr} {fd_law_quiet : FuncData} (C_law_quiet : Df P w K mg base ca cfG 1 "_law_quiet" a_law_quiet fd_law_quiet ["_law_rows", "_law_many"] .e f_law_quiet)
    (B_law_quiet : Binds K fd_law_quiet ["_law_rows", "_law_many"] [])
    {a_law_final : Addr} {fd_law_final : FuncData} (C_law_final : Df P w K mg base ca cfG 4 "_law_final" a_law_final fd_law_final ["_law_rows", "_law_ceiling", "_law_number_here"] .e f_law_final_k12)
    (B_law_final : Binds K fd_law_final ["_law_rows", "_law_ceiling", "_law_number_here"] [])
    {a_law_right : Addr} {fd_law_right : FuncData} (C_law_right : Df P w K mg base ca cfG 11 "_law_right" a_law_right fd_law_right ["_law_rows", "_law_final_here", "_law_ceiling"] .e f_law_right_k12)
    (B_law_right : Binds K fd_law_right ["_law_rows", "_law_final_here", "_law_ceiling"] []) : FnOk P w K mg base (L2.CX P w) 12 a fd ["_law_script"] (SpF ca cfG .e 1 f_law) :=
  fn_body F sc_law fun cdv A outer s H E hr => by
    have hu := hr.units
    have tk0 := tk_of (P := P) (w := w) (K := K) (mg := mg) (base := base) (N := N_law) (qual := "law") (sc := defScope s_law) (f := a) (cd := cdv) (A := A) (outer := outer) (s := s) (H := H) (E := E)
    have pa0 := pa_of (P := P) (w := w) (K := K) (mg := mg) (base := base) (N := N_law) (qual := "law") (sc := defScope s_law) (f := a) (cd := cdv) (A := A) (outer := outer) (s := s) (H := H) (E := E)
    exact (xss_cons (xs_asgT (fun _ _ h1 h2 => ps_asg h1 h2) (xcallE C_law_shape B_law_shape (hr.mono (by decide)) tk0 (ae_cons (xv 0) (ae_cons xi ae_nil))) (xg_tup (fun _ h => pg_tup rfl h) rfl (xgs_cons (xg_name 1 (pg_name (i := 1) sc_law.nd rfl (by first | exact Or.inl rfl | exact Or.inr rfl))) (xgs_cons (xg_name 2 (pg_name (i := 2) sc_law.nd rfl (by first | exact Or.inl rfl | exact Or.inr rfl))) (xgs_cons (xg_name 3 (pg_name (i := 3) sc_law.nd rfl (by first | exact Or.inl rfl | exact Or.inr rfl))) xgs_nil)))))
  (xss_cons (xs_set (fun _ h => ps_set (i := 4) sc_law.nd rfl (by first | exact Or.inl rfl | exact Or.inr rfl) h) (xcallE C_law_number B_law_number (hr.mono (by decide)) tk0 (ae_cons (xv 0) (ae_cons xi ae_nil))))
  (xss_cons (xs_set (fun _ h => ps_set (i := 5) sc_law.nd rfl (by first | exact Or.inl rfl | exact Or.inr rfl) h) (xmin2 rfl B.b_min (ab_cons (XX.e_b xi) (ab_cons (XX.e_b (xadd (xv 2) (xmod (xint B.b_int (ab_cons (XX.e_b (xv 4)) ab_nil)) xi))) ab_nil))))
  (xss_cons (xs_set (fun _ h => ps_set (i := 6) sc_law.nd rfl (by first | exact Or.inl rfl | exact Or.inr rfl) h) (XX.o_e (xcallO C_law_periods B_law_periods (hr.mono (by decide)) tk0 (ae_cons (xv 0) (ae_cons xi (ae_cons (xv 5) (ae_cons (xv 1) ae_nil)))))))
  (xss_cons (xs_set (fun _ h => ps_set (i := 7) sc_law.nd rfl (by first | exact Or.inl rfl | exact Or.inr rfl) h) (xdiv (xv 4) xi))
  (xss_cons (xs_if (teq hu (XX.e_b (xmod (xint B.b_int (ab_cons (XX.e_b (xv 7)) ab_nil)) xi)) (XX.e_b xi))
  (xss_one (xs_set (fun _ h => ps_set (i := 6) sc_law.nd rfl (by first | exact Or.inl rfl | exact Or.inr rfl) h) (xcallE C_law_quiet B_law_quiet (hr.mono (by decide)) tk0 (ae_cons (xv 6) (ae_cons (xmod (xint B.b_int (ab_cons (XX.e_b (xdiv (xv 7) xi)) ab_nil)) (xadd (xv 5) xi)) ae_nil)))))
  xss_nil)
  (xss_cons (xs_set (fun _ h => ps_set (i := 8) sc_law.nd rfl (by first | exact Or.inl rfl | exact Or.inr rfl) h) (xcallE C_law_cap B_law_cap (hr.mono (by decide)) tk0 (ae_cons (xv 0) (ae_cons (xv 1) ae_nil))))
  (xss_cons (xs_set (fun _ h => ps_set (i := 9) sc_law.nd rfl (by first | exact Or.inl rfl | exact Or.inr rfl) h) (xcallE C_law_final B_law_final (hr.mono (by decide)) tk0 (ae_cons (xv 6) (ae_cons (xv 8) (ae_cons (xcallE C_law_number B_law_number (hr.mono (by decide)) tk0 (ae_cons (xv 0) (ae_cons xi ae_nil))) ae_nil)))))
  (xss_cons (xs_if (XW.pt (wor (tnot (tval (XX.e_b (xcallE C_law_right B_law_right (hr.mono (by decide)) tk0 (ae_cons (xv 6) (ae_cons (xv 9) (ae_cons (xv 8) ae_nil))))))) (wor1 (tnot (tval (XX.e_b (xcallE C_law_right B_law_right (hr.mono (by decide)) tk0 (ae_cons (xv 6) (ae_cons (xsub (xneg xi) (xv 9)) (ae_cons (xv 8) ae_nil))))))))))
  (xss_one (xs_ret xbl))
  xss_nil)
  (xss_cons (xs_if (XW.pt (wor (tnot (tval (XX.e_b (xcallE C_law_right B_law_right (hr.mono (by decide)) tk0 (ae_cons (xv 6) (ae_cons (xv 9) (ae_cons xn ae_nil))))))) (wor1 (tnot (tval (XX.e_b (xcallE C_law_right B_law_right (hr.mono (by decide)) tk0 (ae_cons (xv 6) (ae_cons xi (ae_cons (xv 8) ae_nil))))))))))
  (xss_one (xs_ret xbl))
  xss_nil)
  (xss_one (xs_ret (xand (xcallE C_law_right B_law_right (hr.mono (by decide)) tk0 (ae_cons (XX.o_e (xlst ae_nil)) (ae_cons (xv 9) (ae_cons (xv 8) ae_nil)))) (xone (xcallE C_law_right B_law_right (hr.mono (by decide)) tk0 (ae_cons (XX.o_e (xlst ae_nil)) (ae_cons (xsub (xneg xi) (xv 9)) (ae_cons (xv 8) ae_nil))))))))))))))))))
end Lw

namespace Lw
open PySem PySem.Spec PyProof.Rows L2 Ct
theorem sb_all {R : Nat → Nat → Bool → Prop} (h_InvalidPeriod_NoPeriods : R 0 2 false) (h_InvalidPeriod_InvalidEnding : R 0 7 false) (h_InvalidPeriod_NotForced : R 0 8 false) (h_SetupAboveCap_NoPeriods : R 1 2 false) (h_SetupAboveCap_InvalidEnding : R 1 7 false) (h_SetupAboveCap_NotForced : R 1 8 false) (h_NoPeriods_NoPeriods : R 2 2 true) (h_NoPeriods_InvalidEnding : R 2 7 false) (h_NoPeriods_NotForced : R 2 8 false) (h_TooManyOrders_NoPeriods : R 3 2 false) (h_TooManyOrders_InvalidEnding : R 3 7 false) (h_TooManyOrders_NotForced : R 3 8 false) (h_InvalidOrder_NoPeriods : R 4 2 false) (h_InvalidOrder_InvalidEnding : R 4 7 false) (h_InvalidOrder_NotForced : R 4 8 false) (h_Shortage_NoPeriods : R 5 2 false) (h_Shortage_InvalidEnding : R 5 7 false) (h_Shortage_NotForced : R 5 8 false) (h_Excess_NoPeriods : R 6 2 false) (h_Excess_InvalidEnding : R 6 7 false) (h_Excess_NotForced : R 6 8 false) (h_InvalidEnding_NoPeriods : R 7 2 false) (h_InvalidEnding_InvalidEnding : R 7 7 true) (h_InvalidEnding_NotForced : R 7 8 false) (h_NotForced_NoPeriods : R 8 2 false) (h_NotForced_InvalidEnding : R 8 7 false) (h_NotForced_NotForced : R 8 8 true) (h_NotSafe_NoPeriods : R 9 2 false) (h_NotSafe_InvalidEnding : R 9 7 false) (h_NotSafe_NotForced : R 9 8 false) (h_Finished_NoPeriods : R 10 2 false) (h_Finished_InvalidEnding : R 10 7 false) (h_Finished_NotForced : R 10 8 false) : ∀ c hc b, SB c hc = some b → R c hc b := fun c hc b h => by
  unfold SB at h
  split at h <;> cases h <;> assumption
theorem all_mk {P : Program} {w : World} {K : PySem.W.Frag} {h : Heap} {mg : Str → Option Value} {fa : Addr} (X : K.In h) (G : h.Ns mainGlobals mg) (hfa : mg "law" = some (.ref fa)) (nl : NoLst K)
    {e_InvalidPeriod : Addr}
    {e_SetupAboveCap : Addr}
    {e_NoPeriods : Addr}
    {e_TooManyOrders : Addr}
    {e_InvalidOrder : Addr}
    {e_Shortage : Addr}
    {e_Excess : Addr}
    {e_InvalidEnding : Addr}
    {e_NotForced : Addr}
    {e_NotSafe : Addr}
    {e_Finished : Addr}
    {e_PlanError : Addr}
    {a_check_periods : Addr} {oc_check_periods dc_check_periods pm_check_periods cd_check_periods ct_check_periods : Value} {od_check_periods an_check_periods : Option Addr} {sl_check_periods : Array (Option Value)}
    {kd_check_periods : Addr}
    {a_last_costs : Addr} {oc_last_costs dc_last_costs pm_last_costs cd_last_costs ct_last_costs kV_last_costs : Value} {od_last_costs an_last_costs : Option Addr} {sl_last_costs : Array (Option Value)}
    {a_least_costs : Addr} {oc_least_costs dc_least_costs pm_least_costs cd_least_costs ct_least_costs kV_least_costs : Value} {od_least_costs an_least_costs : Option Addr} {sl_least_costs : Array (Option Value)}
    {a_check_ending : Addr} {oc_check_ending dc_check_ending pm_check_ending cd_check_ending ct_check_ending kV_check_ending : Value} {od_check_ending an_check_ending : Option Addr} {sl_check_ending : Array (Option Value)}
    {a_least_cost : Addr} {oc_least_cost dc_least_cost pm_least_cost cd_least_cost ct_least_cost : Value} {od_least_cost an_least_cost : Option Addr} {sl_least_cost : Array (Option Value)}
    {kd_least_cost : Addr}
    {td_least_cost : Tok}
    {a_cost_lines : Addr} {oc_cost_lines dc_cost_lines pm_cost_lines cd_cost_lines ct_cost_lines kV_cost_lines : Value} {od_cost_lines an_cost_lines : Option Addr} {sl_cost_lines : Array (Option Value)}
    {a_greatest_forced : Addr} {oc_greatest_forced dc_greatest_forced pm_greatest_forced cd_greatest_forced ct_greatest_forced : Value} {od_greatest_forced an_greatest_forced : Option Addr} {sl_greatest_forced : Array (Option Value)}
    {kd_greatest_forced : Addr}
    {a_standard_continuation : Addr} {oc_standard_continuation dc_standard_continuation pm_standard_continuation cd_standard_continuation ct_standard_continuation : Value} {od_standard_continuation an_standard_continuation : Option Addr} {sl_standard_continuation : Array (Option Value)}
    {kd_standard_continuation : Addr}
    {a_law_cell : Addr} {oc_law_cell dc_law_cell pm_law_cell cd_law_cell ct_law_cell kV_law_cell : Value} {od_law_cell an_law_cell : Option Addr} {sl_law_cell : Array (Option Value)}
    {a_law_number : Addr} {oc_law_number dc_law_number pm_law_number cd_law_number ct_law_number kV_law_number : Value} {od_law_number an_law_number : Option Addr} {sl_law_number : Array (Option Value)}
    {a_law_period : Addr} {oc_law_period dc_law_period pm_law_period cd_law_period ct_law_period kV_law_period : Value} {od_law_period an_law_period : Option Addr} {sl_law_period : Array (Option Value)}
    {a_law_periods : Addr} {oc_law_periods dc_law_periods pm_law_periods cd_law_periods ct_law_periods kV_law_periods : Value} {od_law_periods an_law_periods : Option Addr} {sl_law_periods : Array (Option Value)}
    {a_law_shape : Addr} {oc_law_shape dc_law_shape pm_law_shape cd_law_shape ct_law_shape kV_law_shape : Value} {od_law_shape an_law_shape : Option Addr} {sl_law_shape : Array (Option Value)}
    {a_law_cap : Addr} {oc_law_cap dc_law_cap pm_law_cap cd_law_cap ct_law_cap kV_law_cap : Value} {od_law_cap an_law_cap : Option Addr} {sl_law_cap : Array (Option Value)}
    {a_law_costs : Addr} {oc_law_costs dc_law_costs pm_law_costs cd_law_costs ct_law_costs kV_law_costs : Value} {od_law_costs an_law_costs : Option Addr} {sl_law_costs : Array (Option Value)}
    {a_law_high : Addr} {oc_law_high dc_law_high pm_law_high cd_law_high ct_law_high kV_law_high : Value} {od_law_high an_law_high : Option Addr} {sl_law_high : Array (Option Value)}
    {a_law_least : Addr} {oc_law_least dc_law_least pm_law_least cd_law_least ct_law_least kV_law_least : Value} {od_law_least an_law_least : Option Addr} {sl_law_least : Array (Option Value)}
    {a_law_same : Addr} {oc_law_same dc_law_same pm_law_same cd_law_same ct_law_same kV_law_same : Value} {od_law_same an_law_same : Option Addr} {sl_law_same : Array (Option Value)}
    {a_law_lines : Addr} {oc_law_lines dc_law_lines pm_law_lines cd_law_lines ct_law_lines kV_law_lines : Value} {od_law_lines an_law_lines : Option Addr} {sl_law_lines : Array (Option Value)}
    {a_law_forced : Addr} {oc_law_forced dc_law_forced pm_law_forced cd_law_forced ct_law_forced kV_law_forced : Value} {od_law_forced an_law_forced : Option Addr} {sl_law_forced : Array (Option Value)}
    {a_law_quiet : Addr} {oc_law_quiet dc_law_quiet pm_law_quiet cd_law_quiet ct_law_quiet kV_law_quiet : Value} {od_law_quiet an_law_quiet : Option Addr} {sl_law_quiet : Array (Option Value)}
    {a_law_edge : Addr} {oc_law_edge dc_law_edge pm_law_edge cd_law_edge ct_law_edge kV_law_edge : Value} {od_law_edge an_law_edge : Option Addr} {sl_law_edge : Array (Option Value)}
    {a_law_final : Addr} {oc_law_final dc_law_final pm_law_final cd_law_final ct_law_final kV_law_final : Value} {od_law_final an_law_final : Option Addr} {sl_law_final : Array (Option Value)}
    {a_law_due : Addr} {oc_law_due dc_law_due pm_law_due cd_law_due ct_law_due kV_law_due : Value} {od_law_due an_law_due : Option Addr} {sl_law_due : Array (Option Value)}
    {a_law_told : Addr} {oc_law_told dc_law_told pm_law_told cd_law_told ct_law_told kV_law_told : Value} {od_law_told an_law_told : Option Addr} {sl_law_told : Array (Option Value)}
    {a_law_right : Addr} {oc_law_right dc_law_right pm_law_right cd_law_right ct_law_right kV_law_right : Value} {od_law_right an_law_right : Option Addr} {sl_law_right : Array (Option Value)}
    {a_law : Addr} {oc_law dc_law pm_law cd_law ct_law kV_law : Value} {od_law an_law : Option Addr} {sl_law : Array (Option Value)}
    (z_ValueError : PySem.W.nsIn K mainGlobals "ValueError" = some none)
    (z_abs : PySem.W.nsIn K mainGlobals "abs" = some none)
    (z_bool : PySem.W.nsIn K mainGlobals "bool" = some none)
    (z_enumerate : PySem.W.nsIn K mainGlobals "enumerate" = some none)
    (z_int : PySem.W.nsIn K mainGlobals "int" = some none)
    (z_isinstance : PySem.W.nsIn K mainGlobals "isinstance" = some none)
    (z_len : PySem.W.nsIn K mainGlobals "len" = some none)
    (z_list : PySem.W.nsIn K mainGlobals "list" = some none)
    (z_max : PySem.W.nsIn K mainGlobals "max" = some none)
    (z_min : PySem.W.nsIn K mainGlobals "min" = some none)
    (z_range : PySem.W.nsIn K mainGlobals "range" = some none)
    (z_reversed : PySem.W.nsIn K mainGlobals "reversed" = some none)
    (z_sum : PySem.W.nsIn K mainGlobals "sum" = some none)
    (z_tuple : PySem.W.nsIn K mainGlobals "tuple" = some none)
    (ns_InvalidPeriod : PySem.W.nsIn K mainGlobals "InvalidPeriod" = some (some (.ref e_InvalidPeriod)))
    (ns_SetupAboveCap : PySem.W.nsIn K mainGlobals "SetupAboveCap" = some (some (.ref e_SetupAboveCap)))
    (ns_NoPeriods : PySem.W.nsIn K mainGlobals "NoPeriods" = some (some (.ref e_NoPeriods)))
    (ns_TooManyOrders : PySem.W.nsIn K mainGlobals "TooManyOrders" = some (some (.ref e_TooManyOrders)))
    (ns_InvalidOrder : PySem.W.nsIn K mainGlobals "InvalidOrder" = some (some (.ref e_InvalidOrder)))
    (ns_Shortage : PySem.W.nsIn K mainGlobals "Shortage" = some (some (.ref e_Shortage)))
    (ns_Excess : PySem.W.nsIn K mainGlobals "Excess" = some (some (.ref e_Excess)))
    (ns_InvalidEnding : PySem.W.nsIn K mainGlobals "InvalidEnding" = some (some (.ref e_InvalidEnding)))
    (ns_NotForced : PySem.W.nsIn K mainGlobals "NotForced" = some (some (.ref e_NotForced)))
    (ns_NotSafe : PySem.W.nsIn K mainGlobals "NotSafe" = some (some (.ref e_NotSafe)))
    (ns_Finished : PySem.W.nsIn K mainGlobals "Finished" = some (some (.ref e_Finished)))
    (ns_PlanError : PySem.W.nsIn K mainGlobals "PlanError" = some (some (.ref e_PlanError)))
    (x_InvalidPeriod : ExF P K mg e_InvalidPeriod "InvalidPeriod" ["index"])
    (x_SetupAboveCap : ExF P K mg e_SetupAboveCap "SetupAboveCap" ["index"])
    (q_NoPeriods : PySem.W.excIn K e_NoPeriods [.type "ValueError", .type "Exception", .type "BaseException", .type "object"] "ValueError.__new__" = true)
    (kp_NoPeriods : PySem.W.keepIn K (.ref e_NoPeriods) = true)
    (sb_NoPeriods : PySem.W.subIn K (.ref e_NoPeriods) (.type "BaseException") = some true)
    (ty_NoPeriods : PySem.W.typeIn K (.ref e_NoPeriods) = some (.type "type"))
    (q_TooManyOrders : PySem.W.excIn K e_TooManyOrders [.type "ValueError", .type "Exception", .type "BaseException", .type "object"] "ValueError.__new__" = true)
    (kp_TooManyOrders : PySem.W.keepIn K (.ref e_TooManyOrders) = true)
    (sb_TooManyOrders : PySem.W.subIn K (.ref e_TooManyOrders) (.type "BaseException") = some true)
    (ty_TooManyOrders : PySem.W.typeIn K (.ref e_TooManyOrders) = some (.type "type"))
    (x_InvalidOrder : ExF P K mg e_InvalidOrder "InvalidOrder" ["index"])
    (x_Shortage : ExF P K mg e_Shortage "Shortage" ["index", "amount"])
    (x_Excess : ExF P K mg e_Excess "Excess" ["amount"])
    (q_InvalidEnding : PySem.W.excIn K e_InvalidEnding [.type "ValueError", .type "Exception", .type "BaseException", .type "object"] "ValueError.__new__" = true)
    (kp_InvalidEnding : PySem.W.keepIn K (.ref e_InvalidEnding) = true)
    (sb_InvalidEnding : PySem.W.subIn K (.ref e_InvalidEnding) (.type "BaseException") = some true)
    (ty_InvalidEnding : PySem.W.typeIn K (.ref e_InvalidEnding) = some (.type "type"))
    (q_NotForced : PySem.W.excIn K e_NotForced [.type "ValueError", .type "Exception", .type "BaseException", .type "object"] "ValueError.__new__" = true)
    (kp_NotForced : PySem.W.keepIn K (.ref e_NotForced) = true)
    (sb_NotForced : PySem.W.subIn K (.ref e_NotForced) (.type "BaseException") = some true)
    (ty_NotForced : PySem.W.typeIn K (.ref e_NotForced) = some (.type "type"))
    (x_NotSafe : ExF P K mg e_NotSafe "NotSafe" ["continuation"])
    (q_Finished : PySem.W.excIn K e_Finished [.type "ValueError", .type "Exception", .type "BaseException", .type "object"] "ValueError.__new__" = true)
    (kp_Finished : PySem.W.keepIn K (.ref e_Finished) = true)
    (sb_Finished : PySem.W.subIn K (.ref e_Finished) (.type "BaseException") = some true)
    (ty_Finished : PySem.W.typeIn K (.ref e_Finished) = some (.type "type"))
    (ec_NoPeriods : ExcC K e_NoPeriods)
    (ec_InvalidEnding : ExcC K e_InvalidEnding)
    (ec_NotForced : ExcC K e_NotForced)
    (kt_InvalidEnding_NoPeriods : PySem.W.kitOne K (.ref e_InvalidEnding) (.ref e_NoPeriods) = some false)
    (kt_InvalidEnding_NotForced : PySem.W.kitOne K (.ref e_InvalidEnding) (.ref e_NotForced) = some false)
    (kt_InvalidEnding_PlanError : PySem.W.kitOne K (.ref e_InvalidEnding) (.ref e_PlanError) = some true)
    (kt_InvalidEnding_ValueError : PySem.W.kitOne K (.ref e_InvalidEnding) (.type "ValueError") = some true)
    (kt_NoPeriods_PlanError : PySem.W.kitOne K (.ref e_NoPeriods) (.ref e_PlanError) = some true)
    (kt_NoPeriods_ValueError : PySem.W.kitOne K (.ref e_NoPeriods) (.type "ValueError") = some true)
    (kt_NotForced_Excess : PySem.W.kitOne K (.ref e_NotForced) (.ref e_Excess) = some false)
    (kt_NotForced_Finished : PySem.W.kitOne K (.ref e_NotForced) (.ref e_Finished) = some false)
    (kt_NotForced_InvalidEnding : PySem.W.kitOne K (.ref e_NotForced) (.ref e_InvalidEnding) = some false)
    (kt_NotForced_InvalidOrder : PySem.W.kitOne K (.ref e_NotForced) (.ref e_InvalidOrder) = some false)
    (kt_NotForced_InvalidPeriod : PySem.W.kitOne K (.ref e_NotForced) (.ref e_InvalidPeriod) = some false)
    (kt_NotForced_NoPeriods : PySem.W.kitOne K (.ref e_NotForced) (.ref e_NoPeriods) = some false)
    (kt_NotForced_NotSafe : PySem.W.kitOne K (.ref e_NotForced) (.ref e_NotSafe) = some false)
    (kt_NotForced_PlanError : PySem.W.kitOne K (.ref e_NotForced) (.ref e_PlanError) = some true)
    (kt_NotForced_SetupAboveCap : PySem.W.kitOne K (.ref e_NotForced) (.ref e_SetupAboveCap) = some false)
    (kt_NotForced_Shortage : PySem.W.kitOne K (.ref e_NotForced) (.ref e_Shortage) = some false)
    (kt_NotForced_TooManyOrders : PySem.W.kitOne K (.ref e_NotForced) (.ref e_TooManyOrders) = some false)
    (kt_NotForced_ValueError : PySem.W.kitOne K (.ref e_NotForced) (.type "ValueError") = some true)
    (hs1_NoPeriods : PySem.W.subIn K (.ref e_NoPeriods) (.type "BaseException") = some true)
    (hs2_NoPeriods : PySem.W.hasDictIn K e_NoPeriods = true)
    (hs3_NoPeriods : PySem.W.typeIn K (.ref e_NoPeriods) = some (.type "type"))
    (hs1_InvalidEnding : PySem.W.subIn K (.ref e_InvalidEnding) (.type "BaseException") = some true)
    (hs2_InvalidEnding : PySem.W.hasDictIn K e_InvalidEnding = true)
    (hs3_InvalidEnding : PySem.W.typeIn K (.ref e_InvalidEnding) = some (.type "type"))
    (hs1_NotForced : PySem.W.subIn K (.ref e_NotForced) (.type "BaseException") = some true)
    (hs2_NotForced : PySem.W.hasDictIn K e_NotForced = true)
    (hs3_NotForced : PySem.W.typeIn K (.ref e_NotForced) = some (.type "type"))
    (sb_InvalidPeriod_NoPeriods : PySem.W.subIn K (.ref e_InvalidPeriod) (.ref e_NoPeriods) = some false)
    (sb_InvalidPeriod_InvalidEnding : PySem.W.subIn K (.ref e_InvalidPeriod) (.ref e_InvalidEnding) = some false)
    (sb_InvalidPeriod_NotForced : PySem.W.subIn K (.ref e_InvalidPeriod) (.ref e_NotForced) = some false)
    (sb_SetupAboveCap_NoPeriods : PySem.W.subIn K (.ref e_SetupAboveCap) (.ref e_NoPeriods) = some false)
    (sb_SetupAboveCap_InvalidEnding : PySem.W.subIn K (.ref e_SetupAboveCap) (.ref e_InvalidEnding) = some false)
    (sb_SetupAboveCap_NotForced : PySem.W.subIn K (.ref e_SetupAboveCap) (.ref e_NotForced) = some false)
    (sb_NoPeriods_NoPeriods : PySem.W.subIn K (.ref e_NoPeriods) (.ref e_NoPeriods) = some true)
    (sb_NoPeriods_InvalidEnding : PySem.W.subIn K (.ref e_NoPeriods) (.ref e_InvalidEnding) = some false)
    (sb_NoPeriods_NotForced : PySem.W.subIn K (.ref e_NoPeriods) (.ref e_NotForced) = some false)
    (sb_TooManyOrders_NoPeriods : PySem.W.subIn K (.ref e_TooManyOrders) (.ref e_NoPeriods) = some false)
    (sb_TooManyOrders_InvalidEnding : PySem.W.subIn K (.ref e_TooManyOrders) (.ref e_InvalidEnding) = some false)
    (sb_TooManyOrders_NotForced : PySem.W.subIn K (.ref e_TooManyOrders) (.ref e_NotForced) = some false)
    (sb_InvalidOrder_NoPeriods : PySem.W.subIn K (.ref e_InvalidOrder) (.ref e_NoPeriods) = some false)
    (sb_InvalidOrder_InvalidEnding : PySem.W.subIn K (.ref e_InvalidOrder) (.ref e_InvalidEnding) = some false)
    (sb_InvalidOrder_NotForced : PySem.W.subIn K (.ref e_InvalidOrder) (.ref e_NotForced) = some false)
    (sb_Shortage_NoPeriods : PySem.W.subIn K (.ref e_Shortage) (.ref e_NoPeriods) = some false)
    (sb_Shortage_InvalidEnding : PySem.W.subIn K (.ref e_Shortage) (.ref e_InvalidEnding) = some false)
    (sb_Shortage_NotForced : PySem.W.subIn K (.ref e_Shortage) (.ref e_NotForced) = some false)
    (sb_Excess_NoPeriods : PySem.W.subIn K (.ref e_Excess) (.ref e_NoPeriods) = some false)
    (sb_Excess_InvalidEnding : PySem.W.subIn K (.ref e_Excess) (.ref e_InvalidEnding) = some false)
    (sb_Excess_NotForced : PySem.W.subIn K (.ref e_Excess) (.ref e_NotForced) = some false)
    (sb_InvalidEnding_NoPeriods : PySem.W.subIn K (.ref e_InvalidEnding) (.ref e_NoPeriods) = some false)
    (sb_InvalidEnding_InvalidEnding : PySem.W.subIn K (.ref e_InvalidEnding) (.ref e_InvalidEnding) = some true)
    (sb_InvalidEnding_NotForced : PySem.W.subIn K (.ref e_InvalidEnding) (.ref e_NotForced) = some false)
    (sb_NotForced_NoPeriods : PySem.W.subIn K (.ref e_NotForced) (.ref e_NoPeriods) = some false)
    (sb_NotForced_InvalidEnding : PySem.W.subIn K (.ref e_NotForced) (.ref e_InvalidEnding) = some false)
    (sb_NotForced_NotForced : PySem.W.subIn K (.ref e_NotForced) (.ref e_NotForced) = some true)
    (sb_NotSafe_NoPeriods : PySem.W.subIn K (.ref e_NotSafe) (.ref e_NoPeriods) = some false)
    (sb_NotSafe_InvalidEnding : PySem.W.subIn K (.ref e_NotSafe) (.ref e_InvalidEnding) = some false)
    (sb_NotSafe_NotForced : PySem.W.subIn K (.ref e_NotSafe) (.ref e_NotForced) = some false)
    (sb_Finished_NoPeriods : PySem.W.subIn K (.ref e_Finished) (.ref e_NoPeriods) = some false)
    (sb_Finished_InvalidEnding : PySem.W.subIn K (.ref e_Finished) (.ref e_InvalidEnding) = some false)
    (sb_Finished_NotForced : PySem.W.subIn K (.ref e_Finished) (.ref e_NotForced) = some false)
    (n_check_periods : PySem.W.nsIn K mainGlobals "check_periods" = some (some (.ref a_check_periods)))
    (l_check_periods : K.lookup a_check_periods = some ⟨oc_check_periods, od_check_periods, .func (PySem.W.fnOf "check_periods" "check_periods" (defArgs s_check_periods) (defBody s_check_periods) (defScope s_check_periods) .none (.ref kd_check_periods) dc_check_periods pm_check_periods an_check_periods cd_check_periods ct_check_periods), sl_check_periods⟩)
    (c_check_periods : PySem.W.codeIn K cd_check_periods "check_periods" = true)
    (k_check_periods : PySem.W.keepIn K (.ref a_check_periods) = true)
    (d_check_periods : PySem.W.nsIn K kd_check_periods "cap" = some (some .none))
    (n_last_costs : PySem.W.nsIn K mainGlobals "last_costs" = some (some (.ref a_last_costs)))
    (l_last_costs : K.lookup a_last_costs = some ⟨oc_last_costs, od_last_costs, .func (PySem.W.fnOf "last_costs" "last_costs" (defArgs s_last_costs) (defBody s_last_costs) (defScope s_last_costs) .none kV_last_costs dc_last_costs pm_last_costs an_last_costs cd_last_costs ct_last_costs), sl_last_costs⟩)
    (c_last_costs : PySem.W.codeIn K cd_last_costs "last_costs" = true)
    (k_last_costs : PySem.W.keepIn K (.ref a_last_costs) = true)
    (n_least_costs : PySem.W.nsIn K mainGlobals "least_costs" = some (some (.ref a_least_costs)))
    (l_least_costs : K.lookup a_least_costs = some ⟨oc_least_costs, od_least_costs, .func (PySem.W.fnOf "least_costs" "least_costs" (defArgs s_least_costs) (defBody s_least_costs) (defScope s_least_costs) .none kV_least_costs dc_least_costs pm_least_costs an_least_costs cd_least_costs ct_least_costs), sl_least_costs⟩)
    (c_least_costs : PySem.W.codeIn K cd_least_costs "least_costs" = true)
    (k_least_costs : PySem.W.keepIn K (.ref a_least_costs) = true)
    (n_check_ending : PySem.W.nsIn K mainGlobals "check_ending" = some (some (.ref a_check_ending)))
    (l_check_ending : K.lookup a_check_ending = some ⟨oc_check_ending, od_check_ending, .func (PySem.W.fnOf "check_ending" "check_ending" (defArgs s_check_ending) (defBody s_check_ending) (defScope s_check_ending) .none kV_check_ending dc_check_ending pm_check_ending an_check_ending cd_check_ending ct_check_ending), sl_check_ending⟩)
    (c_check_ending : PySem.W.codeIn K cd_check_ending "check_ending" = true)
    (k_check_ending : PySem.W.keepIn K (.ref a_check_ending) = true)
    (n_least_cost : PySem.W.nsIn K mainGlobals "least_cost" = some (some (.ref a_least_cost)))
    (l_least_cost : K.lookup a_least_cost = some ⟨oc_least_cost, od_least_cost, .func (PySem.W.fnOf "least_cost" "least_cost" (defArgs s_least_cost) (defBody s_least_cost) (defScope s_least_cost) .none (.ref kd_least_cost) dc_least_cost pm_least_cost an_least_cost cd_least_cost ct_least_cost), sl_least_cost⟩)
    (c_least_cost : PySem.W.codeIn K cd_least_cost "least_cost" = true)
    (k_least_cost : PySem.W.keepIn K (.ref a_least_cost) = true)
    (d_least_cost : PySem.W.nsIn K kd_least_cost "ending" = some (some (.int 0 td_least_cost)))
    (n_cost_lines : PySem.W.nsIn K mainGlobals "cost_lines" = some (some (.ref a_cost_lines)))
    (l_cost_lines : K.lookup a_cost_lines = some ⟨oc_cost_lines, od_cost_lines, .func (PySem.W.fnOf "cost_lines" "cost_lines" (defArgs s_cost_lines) (defBody s_cost_lines) (defScope s_cost_lines) .none kV_cost_lines dc_cost_lines pm_cost_lines an_cost_lines cd_cost_lines ct_cost_lines), sl_cost_lines⟩)
    (c_cost_lines : PySem.W.codeIn K cd_cost_lines "cost_lines" = true)
    (k_cost_lines : PySem.W.keepIn K (.ref a_cost_lines) = true)
    (n_greatest_forced : PySem.W.nsIn K mainGlobals "greatest_forced" = some (some (.ref a_greatest_forced)))
    (l_greatest_forced : K.lookup a_greatest_forced = some ⟨oc_greatest_forced, od_greatest_forced, .func (PySem.W.fnOf "greatest_forced" "greatest_forced" (defArgs s_greatest_forced) (defBody s_greatest_forced) (defScope s_greatest_forced) .none (.ref kd_greatest_forced) dc_greatest_forced pm_greatest_forced an_greatest_forced cd_greatest_forced ct_greatest_forced), sl_greatest_forced⟩)
    (c_greatest_forced : PySem.W.codeIn K cd_greatest_forced "greatest_forced" = true)
    (k_greatest_forced : PySem.W.keepIn K (.ref a_greatest_forced) = true)
    (d_greatest_forced : PySem.W.nsIn K kd_greatest_forced "cap" = some (some .none))
    (n_standard_continuation : PySem.W.nsIn K mainGlobals "standard_continuation" = some (some (.ref a_standard_continuation)))
    (l_standard_continuation : K.lookup a_standard_continuation = some ⟨oc_standard_continuation, od_standard_continuation, .func (PySem.W.fnOf "standard_continuation" "standard_continuation" (defArgs s_standard_continuation) (defBody s_standard_continuation) (defScope s_standard_continuation) .none (.ref kd_standard_continuation) dc_standard_continuation pm_standard_continuation an_standard_continuation cd_standard_continuation ct_standard_continuation), sl_standard_continuation⟩)
    (c_standard_continuation : PySem.W.codeIn K cd_standard_continuation "standard_continuation" = true)
    (k_standard_continuation : PySem.W.keepIn K (.ref a_standard_continuation) = true)
    (d_standard_continuation : PySem.W.nsIn K kd_standard_continuation "cap" = some (some .none))
    (n_law_cell : PySem.W.nsIn K mainGlobals "_law_cell" = some (some (.ref a_law_cell)))
    (l_law_cell : K.lookup a_law_cell = some ⟨oc_law_cell, od_law_cell, .func (PySem.W.fnOf "_law_cell" "_law_cell" (defArgs s_law_cell) (defBody s_law_cell) (defScope s_law_cell) .none kV_law_cell dc_law_cell pm_law_cell an_law_cell cd_law_cell ct_law_cell), sl_law_cell⟩)
    (c_law_cell : PySem.W.codeIn K cd_law_cell "_law_cell" = true)
    (k_law_cell : PySem.W.keepIn K (.ref a_law_cell) = true)
    (n_law_number : PySem.W.nsIn K mainGlobals "_law_number" = some (some (.ref a_law_number)))
    (l_law_number : K.lookup a_law_number = some ⟨oc_law_number, od_law_number, .func (PySem.W.fnOf "_law_number" "_law_number" (defArgs s_law_number) (defBody s_law_number) (defScope s_law_number) .none kV_law_number dc_law_number pm_law_number an_law_number cd_law_number ct_law_number), sl_law_number⟩)
    (c_law_number : PySem.W.codeIn K cd_law_number "_law_number" = true)
    (k_law_number : PySem.W.keepIn K (.ref a_law_number) = true)
    (n_law_period : PySem.W.nsIn K mainGlobals "_law_period" = some (some (.ref a_law_period)))
    (l_law_period : K.lookup a_law_period = some ⟨oc_law_period, od_law_period, .func (PySem.W.fnOf "_law_period" "_law_period" (defArgs s_law_period) (defBody s_law_period) (defScope s_law_period) .none kV_law_period dc_law_period pm_law_period an_law_period cd_law_period ct_law_period), sl_law_period⟩)
    (c_law_period : PySem.W.codeIn K cd_law_period "_law_period" = true)
    (k_law_period : PySem.W.keepIn K (.ref a_law_period) = true)
    (n_law_periods : PySem.W.nsIn K mainGlobals "_law_periods" = some (some (.ref a_law_periods)))
    (l_law_periods : K.lookup a_law_periods = some ⟨oc_law_periods, od_law_periods, .func (PySem.W.fnOf "_law_periods" "_law_periods" (defArgs s_law_periods) (defBody s_law_periods) (defScope s_law_periods) .none kV_law_periods dc_law_periods pm_law_periods an_law_periods cd_law_periods ct_law_periods), sl_law_periods⟩)
    (c_law_periods : PySem.W.codeIn K cd_law_periods "_law_periods" = true)
    (k_law_periods : PySem.W.keepIn K (.ref a_law_periods) = true)
    (n_law_shape : PySem.W.nsIn K mainGlobals "_law_shape" = some (some (.ref a_law_shape)))
    (l_law_shape : K.lookup a_law_shape = some ⟨oc_law_shape, od_law_shape, .func (PySem.W.fnOf "_law_shape" "_law_shape" (defArgs s_law_shape) (defBody s_law_shape) (defScope s_law_shape) .none kV_law_shape dc_law_shape pm_law_shape an_law_shape cd_law_shape ct_law_shape), sl_law_shape⟩)
    (c_law_shape : PySem.W.codeIn K cd_law_shape "_law_shape" = true)
    (k_law_shape : PySem.W.keepIn K (.ref a_law_shape) = true)
    (n_law_cap : PySem.W.nsIn K mainGlobals "_law_cap" = some (some (.ref a_law_cap)))
    (l_law_cap : K.lookup a_law_cap = some ⟨oc_law_cap, od_law_cap, .func (PySem.W.fnOf "_law_cap" "_law_cap" (defArgs s_law_cap) (defBody s_law_cap) (defScope s_law_cap) .none kV_law_cap dc_law_cap pm_law_cap an_law_cap cd_law_cap ct_law_cap), sl_law_cap⟩)
    (c_law_cap : PySem.W.codeIn K cd_law_cap "_law_cap" = true)
    (k_law_cap : PySem.W.keepIn K (.ref a_law_cap) = true)
    (n_law_costs : PySem.W.nsIn K mainGlobals "_law_costs" = some (some (.ref a_law_costs)))
    (l_law_costs : K.lookup a_law_costs = some ⟨oc_law_costs, od_law_costs, .func (PySem.W.fnOf "_law_costs" "_law_costs" (defArgs s_law_costs) (defBody s_law_costs) (defScope s_law_costs) .none kV_law_costs dc_law_costs pm_law_costs an_law_costs cd_law_costs ct_law_costs), sl_law_costs⟩)
    (c_law_costs : PySem.W.codeIn K cd_law_costs "_law_costs" = true)
    (k_law_costs : PySem.W.keepIn K (.ref a_law_costs) = true)
    (n_law_high : PySem.W.nsIn K mainGlobals "_law_high" = some (some (.ref a_law_high)))
    (l_law_high : K.lookup a_law_high = some ⟨oc_law_high, od_law_high, .func (PySem.W.fnOf "_law_high" "_law_high" (defArgs s_law_high) (defBody s_law_high) (defScope s_law_high) .none kV_law_high dc_law_high pm_law_high an_law_high cd_law_high ct_law_high), sl_law_high⟩)
    (c_law_high : PySem.W.codeIn K cd_law_high "_law_high" = true)
    (k_law_high : PySem.W.keepIn K (.ref a_law_high) = true)
    (n_law_least : PySem.W.nsIn K mainGlobals "_law_least" = some (some (.ref a_law_least)))
    (l_law_least : K.lookup a_law_least = some ⟨oc_law_least, od_law_least, .func (PySem.W.fnOf "_law_least" "_law_least" (defArgs s_law_least) (defBody s_law_least) (defScope s_law_least) .none kV_law_least dc_law_least pm_law_least an_law_least cd_law_least ct_law_least), sl_law_least⟩)
    (c_law_least : PySem.W.codeIn K cd_law_least "_law_least" = true)
    (k_law_least : PySem.W.keepIn K (.ref a_law_least) = true)
    (n_law_same : PySem.W.nsIn K mainGlobals "_law_same" = some (some (.ref a_law_same)))
    (l_law_same : K.lookup a_law_same = some ⟨oc_law_same, od_law_same, .func (PySem.W.fnOf "_law_same" "_law_same" (defArgs s_law_same) (defBody s_law_same) (defScope s_law_same) .none kV_law_same dc_law_same pm_law_same an_law_same cd_law_same ct_law_same), sl_law_same⟩)
    (c_law_same : PySem.W.codeIn K cd_law_same "_law_same" = true)
    (k_law_same : PySem.W.keepIn K (.ref a_law_same) = true)
    (n_law_lines : PySem.W.nsIn K mainGlobals "_law_lines" = some (some (.ref a_law_lines)))
    (l_law_lines : K.lookup a_law_lines = some ⟨oc_law_lines, od_law_lines, .func (PySem.W.fnOf "_law_lines" "_law_lines" (defArgs s_law_lines) (defBody s_law_lines) (defScope s_law_lines) .none kV_law_lines dc_law_lines pm_law_lines an_law_lines cd_law_lines ct_law_lines), sl_law_lines⟩)
    (c_law_lines : PySem.W.codeIn K cd_law_lines "_law_lines" = true)
    (k_law_lines : PySem.W.keepIn K (.ref a_law_lines) = true)
    (n_law_forced : PySem.W.nsIn K mainGlobals "_law_forced" = some (some (.ref a_law_forced)))
    (l_law_forced : K.lookup a_law_forced = some ⟨oc_law_forced, od_law_forced, .func (PySem.W.fnOf "_law_forced" "_law_forced" (defArgs s_law_forced) (defBody s_law_forced) (defScope s_law_forced) .none kV_law_forced dc_law_forced pm_law_forced an_law_forced cd_law_forced ct_law_forced), sl_law_forced⟩)
    (c_law_forced : PySem.W.codeIn K cd_law_forced "_law_forced" = true)
    (k_law_forced : PySem.W.keepIn K (.ref a_law_forced) = true)
    (n_law_quiet : PySem.W.nsIn K mainGlobals "_law_quiet" = some (some (.ref a_law_quiet)))
    (l_law_quiet : K.lookup a_law_quiet = some ⟨oc_law_quiet, od_law_quiet, .func (PySem.W.fnOf "_law_quiet" "_law_quiet" (defArgs s_law_quiet) (defBody s_law_quiet) (defScope s_law_quiet) .none kV_law_quiet dc_law_quiet pm_law_quiet an_law_quiet cd_law_quiet ct_law_quiet), sl_law_quiet⟩)
    (c_law_quiet : PySem.W.codeIn K cd_law_quiet "_law_quiet" = true)
    (k_law_quiet : PySem.W.keepIn K (.ref a_law_quiet) = true)
    (n_law_edge : PySem.W.nsIn K mainGlobals "_law_edge" = some (some (.ref a_law_edge)))
    (l_law_edge : K.lookup a_law_edge = some ⟨oc_law_edge, od_law_edge, .func (PySem.W.fnOf "_law_edge" "_law_edge" (defArgs s_law_edge) (defBody s_law_edge) (defScope s_law_edge) .none kV_law_edge dc_law_edge pm_law_edge an_law_edge cd_law_edge ct_law_edge), sl_law_edge⟩)
    (c_law_edge : PySem.W.codeIn K cd_law_edge "_law_edge" = true)
    (k_law_edge : PySem.W.keepIn K (.ref a_law_edge) = true)
    (n_law_final : PySem.W.nsIn K mainGlobals "_law_final" = some (some (.ref a_law_final)))
    (l_law_final : K.lookup a_law_final = some ⟨oc_law_final, od_law_final, .func (PySem.W.fnOf "_law_final" "_law_final" (defArgs s_law_final) (defBody s_law_final) (defScope s_law_final) .none kV_law_final dc_law_final pm_law_final an_law_final cd_law_final ct_law_final), sl_law_final⟩)
    (c_law_final : PySem.W.codeIn K cd_law_final "_law_final" = true)
    (k_law_final : PySem.W.keepIn K (.ref a_law_final) = true)
    (n_law_due : PySem.W.nsIn K mainGlobals "_law_due" = some (some (.ref a_law_due)))
    (l_law_due : K.lookup a_law_due = some ⟨oc_law_due, od_law_due, .func (PySem.W.fnOf "_law_due" "_law_due" (defArgs s_law_due) (defBody s_law_due) (defScope s_law_due) .none kV_law_due dc_law_due pm_law_due an_law_due cd_law_due ct_law_due), sl_law_due⟩)
    (c_law_due : PySem.W.codeIn K cd_law_due "_law_due" = true)
    (k_law_due : PySem.W.keepIn K (.ref a_law_due) = true)
    (n_law_told : PySem.W.nsIn K mainGlobals "_law_told" = some (some (.ref a_law_told)))
    (l_law_told : K.lookup a_law_told = some ⟨oc_law_told, od_law_told, .func (PySem.W.fnOf "_law_told" "_law_told" (defArgs s_law_told) (defBody s_law_told) (defScope s_law_told) .none kV_law_told dc_law_told pm_law_told an_law_told cd_law_told ct_law_told), sl_law_told⟩)
    (c_law_told : PySem.W.codeIn K cd_law_told "_law_told" = true)
    (k_law_told : PySem.W.keepIn K (.ref a_law_told) = true)
    (n_law_right : PySem.W.nsIn K mainGlobals "_law_right" = some (some (.ref a_law_right)))
    (l_law_right : K.lookup a_law_right = some ⟨oc_law_right, od_law_right, .func (PySem.W.fnOf "_law_right" "_law_right" (defArgs s_law_right) (defBody s_law_right) (defScope s_law_right) .none kV_law_right dc_law_right pm_law_right an_law_right cd_law_right ct_law_right), sl_law_right⟩)
    (c_law_right : PySem.W.codeIn K cd_law_right "_law_right" = true)
    (k_law_right : PySem.W.keepIn K (.ref a_law_right) = true)
    (n_law : PySem.W.nsIn K mainGlobals "law" = some (some (.ref a_law)))
    (l_law : K.lookup a_law = some ⟨oc_law, od_law, .func (PySem.W.fnOf "law" "law" (defArgs s_law) (defBody s_law) (defScope s_law) .none kV_law dc_law pm_law an_law cd_law ct_law), sl_law⟩)
    (c_law : PySem.W.codeIn K cd_law "law" = true)
    (k_law : PySem.W.keepIn K (.ref a_law) = true) :
    ∃ fd : FuncData, (∀ (s : Shared) (v : Value), BindsTo s fd ⟨[v], []⟩ [("_law_script", v)]) ∧ ∀ base : Heap, K.In base → base.Ns mainGlobals mg → FnOk P w K mg base (L2.CX P w) 12 fa fd ["_law_script"] (spLw K 63) := by
  have e := hfa.symm.trans (PySem.W.mg_of X G n_law)
  cases e
  have BB : Bl mg := ⟨PySem.W.mg_none_of X G z_ValueError, PySem.W.mg_none_of X G z_abs, PySem.W.mg_none_of X G z_bool, PySem.W.mg_none_of X G z_enumerate, PySem.W.mg_none_of X G z_int, PySem.W.mg_none_of X G z_isinstance, PySem.W.mg_none_of X G z_len, PySem.W.mg_none_of X G z_list, PySem.W.mg_none_of X G z_max, PySem.W.mg_none_of X G z_min, PySem.W.mg_none_of X G z_range, PySem.W.mg_none_of X G z_reversed, PySem.W.mg_none_of X G z_sum, PySem.W.mg_none_of X G z_tuple⟩
  have T : Tx P K mg (caOf [e_InvalidPeriod, e_SetupAboveCap, e_NoPeriods, e_TooManyOrders, e_InvalidOrder, e_Shortage, e_Excess, e_InvalidEnding, e_NotForced, e_NotSafe, e_Finished, e_PlanError]) := { gm_InvalidPeriod := PySem.W.mg_of X G ns_InvalidPeriod, x_InvalidPeriod := x_InvalidPeriod, gm_SetupAboveCap := PySem.W.mg_of X G ns_SetupAboveCap, x_SetupAboveCap := x_SetupAboveCap, gm_NoPeriods := PySem.W.mg_of X G ns_NoPeriods, q_NoPeriods := q_NoPeriods, kp_NoPeriods := kp_NoPeriods, sb_NoPeriods := sb_NoPeriods, ty_NoPeriods := ty_NoPeriods, gm_TooManyOrders := PySem.W.mg_of X G ns_TooManyOrders, q_TooManyOrders := q_TooManyOrders, kp_TooManyOrders := kp_TooManyOrders, sb_TooManyOrders := sb_TooManyOrders, ty_TooManyOrders := ty_TooManyOrders, gm_InvalidOrder := PySem.W.mg_of X G ns_InvalidOrder, x_InvalidOrder := x_InvalidOrder, gm_Shortage := PySem.W.mg_of X G ns_Shortage, x_Shortage := x_Shortage, gm_Excess := PySem.W.mg_of X G ns_Excess, x_Excess := x_Excess, gm_InvalidEnding := PySem.W.mg_of X G ns_InvalidEnding, q_InvalidEnding := q_InvalidEnding, kp_InvalidEnding := kp_InvalidEnding, sb_InvalidEnding := sb_InvalidEnding, ty_InvalidEnding := ty_InvalidEnding, gm_NotForced := PySem.W.mg_of X G ns_NotForced, q_NotForced := q_NotForced, kp_NotForced := kp_NotForced, sb_NotForced := sb_NotForced, ty_NotForced := ty_NotForced, gm_NotSafe := PySem.W.mg_of X G ns_NotSafe, x_NotSafe := x_NotSafe, gm_Finished := PySem.W.mg_of X G ns_Finished, q_Finished := q_Finished, kp_Finished := kp_Finished, sb_Finished := sb_Finished, ty_Finished := ty_Finished, gm_PlanError := PySem.W.mg_of X G ns_PlanError, ec_NoPeriods := ec_NoPeriods, ec_InvalidEnding := ec_InvalidEnding, ec_NotForced := ec_NotForced, kt_InvalidEnding_NoPeriods := kt_InvalidEnding_NoPeriods, kt_InvalidEnding_NotForced := kt_InvalidEnding_NotForced, kt_InvalidEnding_PlanError := kt_InvalidEnding_PlanError, kt_InvalidEnding_ValueError := kt_InvalidEnding_ValueError, kt_NoPeriods_PlanError := kt_NoPeriods_PlanError, kt_NoPeriods_ValueError := kt_NoPeriods_ValueError, kt_NotForced_Excess := kt_NotForced_Excess, kt_NotForced_Finished := kt_NotForced_Finished, kt_NotForced_InvalidEnding := kt_NotForced_InvalidEnding, kt_NotForced_InvalidOrder := kt_NotForced_InvalidOrder, kt_NotForced_InvalidPeriod := kt_NotForced_InvalidPeriod, kt_NotForced_NoPeriods := kt_NotForced_NoPeriods, kt_NotForced_NotSafe := kt_NotForced_NotSafe, kt_NotForced_PlanError := kt_NotForced_PlanError, kt_NotForced_SetupAboveCap := kt_NotForced_SetupAboveCap, kt_NotForced_Shortage := kt_NotForced_Shortage, kt_NotForced_TooManyOrders := kt_NotForced_TooManyOrders, kt_NotForced_ValueError := kt_NotForced_ValueError, sub := sb_all (R := fun c hc b => PySem.W.exmOne K (.ref ((caOf [e_InvalidPeriod, e_SetupAboveCap, e_NoPeriods, e_TooManyOrders, e_InvalidOrder, e_Shortage, e_Excess, e_InvalidEnding, e_NotForced, e_NotSafe, e_Finished, e_PlanError]) c)) (.ref ((caOf [e_InvalidPeriod, e_SetupAboveCap, e_NoPeriods, e_TooManyOrders, e_InvalidOrder, e_Shortage, e_Excess, e_InvalidEnding, e_NotForced, e_NotSafe, e_Finished, e_PlanError]) hc)) = some b) (PySem.W.exm_ref hs1_NoPeriods hs2_NoPeriods hs3_NoPeriods sb_InvalidPeriod_NoPeriods) (PySem.W.exm_ref hs1_InvalidEnding hs2_InvalidEnding hs3_InvalidEnding sb_InvalidPeriod_InvalidEnding) (PySem.W.exm_ref hs1_NotForced hs2_NotForced hs3_NotForced sb_InvalidPeriod_NotForced) (PySem.W.exm_ref hs1_NoPeriods hs2_NoPeriods hs3_NoPeriods sb_SetupAboveCap_NoPeriods) (PySem.W.exm_ref hs1_InvalidEnding hs2_InvalidEnding hs3_InvalidEnding sb_SetupAboveCap_InvalidEnding) (PySem.W.exm_ref hs1_NotForced hs2_NotForced hs3_NotForced sb_SetupAboveCap_NotForced) (PySem.W.exm_ref hs1_NoPeriods hs2_NoPeriods hs3_NoPeriods sb_NoPeriods_NoPeriods) (PySem.W.exm_ref hs1_InvalidEnding hs2_InvalidEnding hs3_InvalidEnding sb_NoPeriods_InvalidEnding) (PySem.W.exm_ref hs1_NotForced hs2_NotForced hs3_NotForced sb_NoPeriods_NotForced) (PySem.W.exm_ref hs1_NoPeriods hs2_NoPeriods hs3_NoPeriods sb_TooManyOrders_NoPeriods) (PySem.W.exm_ref hs1_InvalidEnding hs2_InvalidEnding hs3_InvalidEnding sb_TooManyOrders_InvalidEnding) (PySem.W.exm_ref hs1_NotForced hs2_NotForced hs3_NotForced sb_TooManyOrders_NotForced) (PySem.W.exm_ref hs1_NoPeriods hs2_NoPeriods hs3_NoPeriods sb_InvalidOrder_NoPeriods) (PySem.W.exm_ref hs1_InvalidEnding hs2_InvalidEnding hs3_InvalidEnding sb_InvalidOrder_InvalidEnding) (PySem.W.exm_ref hs1_NotForced hs2_NotForced hs3_NotForced sb_InvalidOrder_NotForced) (PySem.W.exm_ref hs1_NoPeriods hs2_NoPeriods hs3_NoPeriods sb_Shortage_NoPeriods) (PySem.W.exm_ref hs1_InvalidEnding hs2_InvalidEnding hs3_InvalidEnding sb_Shortage_InvalidEnding) (PySem.W.exm_ref hs1_NotForced hs2_NotForced hs3_NotForced sb_Shortage_NotForced) (PySem.W.exm_ref hs1_NoPeriods hs2_NoPeriods hs3_NoPeriods sb_Excess_NoPeriods) (PySem.W.exm_ref hs1_InvalidEnding hs2_InvalidEnding hs3_InvalidEnding sb_Excess_InvalidEnding) (PySem.W.exm_ref hs1_NotForced hs2_NotForced hs3_NotForced sb_Excess_NotForced) (PySem.W.exm_ref hs1_NoPeriods hs2_NoPeriods hs3_NoPeriods sb_InvalidEnding_NoPeriods) (PySem.W.exm_ref hs1_InvalidEnding hs2_InvalidEnding hs3_InvalidEnding sb_InvalidEnding_InvalidEnding) (PySem.W.exm_ref hs1_NotForced hs2_NotForced hs3_NotForced sb_InvalidEnding_NotForced) (PySem.W.exm_ref hs1_NoPeriods hs2_NoPeriods hs3_NoPeriods sb_NotForced_NoPeriods) (PySem.W.exm_ref hs1_InvalidEnding hs2_InvalidEnding hs3_InvalidEnding sb_NotForced_InvalidEnding) (PySem.W.exm_ref hs1_NotForced hs2_NotForced hs3_NotForced sb_NotForced_NotForced) (PySem.W.exm_ref hs1_NoPeriods hs2_NoPeriods hs3_NoPeriods sb_NotSafe_NoPeriods) (PySem.W.exm_ref hs1_InvalidEnding hs2_InvalidEnding hs3_InvalidEnding sb_NotSafe_InvalidEnding) (PySem.W.exm_ref hs1_NotForced hs2_NotForced hs3_NotForced sb_NotSafe_NotForced) (PySem.W.exm_ref hs1_NoPeriods hs2_NoPeriods hs3_NoPeriods sb_Finished_NoPeriods) (PySem.W.exm_ref hs1_InvalidEnding hs2_InvalidEnding hs3_InvalidEnding sb_Finished_InvalidEnding) (PySem.W.exm_ref hs1_NotForced hs2_NotForced hs3_NotForced sb_Finished_NotForced) }
  have F_check_periods := fun_mk (st := s_check_periods) l_check_periods c_check_periods k_check_periods
  have D_check_periods : BindD K (PySem.W.fnOf "check_periods" "check_periods" (defArgs s_check_periods) (defBody s_check_periods) (defScope s_check_periods) .none (.ref kd_check_periods) dc_check_periods pm_check_periods an_check_periods cd_check_periods ct_check_periods) ["periods", "cap"] .none := bindD_none (FunD.binds0 (F := ⟨⟨_, _, _, _, _, _, _, _, _, _, rfl, l_check_periods, c_check_periods, .inl ⟨rfl, rfl⟩, .inr ⟨kd_check_periods, rfl, fun q hq => by rw [List.mem_singleton.mp hq]; exact ⟨_, d_check_periods, by first | rfl | exact ⟨_, rfl⟩⟩⟩⟩, k_check_periods⟩) (kws := [("cap", .non)]) (ps := ["periods", "cap"]) 1 (by simp) rfl (fun D doc pm an cdv ct us ks hu hk => match us, ks, hu, hk with | [_], [_], _, _ => ⟨_, _, _, _, _, _, rfl, rfl, rfl⟩))
  have F_last_costs := fun_mk (st := s_last_costs) l_last_costs c_last_costs k_last_costs
  have B_last_costs := F_last_costs.binds (ps := ["periods", "costs", "count", "ending"]) fun _ _ _ _ _ _ us hl => match us, hl with | [_, _, _, _], _ => rfl
  have F_least_costs := fun_mk (st := s_least_costs) l_least_costs c_least_costs k_least_costs
  have B_least_costs := F_least_costs.binds (ps := ["periods"]) fun _ _ _ _ _ _ us hl => match us, hl with | [_], _ => rfl
  have F_check_ending := fun_mk (st := s_check_ending) l_check_ending c_check_ending k_check_ending
  have B_check_ending := F_check_ending.binds (ps := ["periods", "ending"]) fun _ _ _ _ _ _ us hl => match us, hl with | [_, _], _ => rfl
  have F_least_cost := fun_mk (st := s_least_cost) l_least_cost c_least_cost k_least_cost
  have D_least_cost : BindD K (PySem.W.fnOf "least_cost" "least_cost" (defArgs s_least_cost) (defBody s_least_cost) (defScope s_least_cost) .none (.ref kd_least_cost) dc_least_cost pm_least_cost an_least_cost cd_least_cost ct_least_cost) ["periods", "ending"] (.int 0) := bindD_zero (FunD.binds0 (F := ⟨⟨_, _, _, _, _, _, _, _, _, _, rfl, l_least_cost, c_least_cost, .inl ⟨rfl, rfl⟩, .inr ⟨kd_least_cost, rfl, fun q hq => by rw [List.mem_singleton.mp hq]; exact ⟨_, d_least_cost, by first | rfl | exact ⟨_, rfl⟩⟩⟩⟩, k_least_cost⟩) (kws := [("ending", .int 0)]) (ps := ["periods", "ending"]) 1 (by simp) rfl (fun D doc pm an cdv ct us ks hu hk => match us, ks, hu, hk with | [_], [_], _, _ => ⟨_, _, _, _, _, _, rfl, rfl, rfl⟩))
  have K_least_cost : BindK K (PySem.W.fnOf "least_cost" "least_cost" (defArgs s_least_cost) (defBody s_least_cost) (defScope s_least_cost) .none (.ref kd_least_cost) dc_least_cost pm_least_cost an_least_cost cd_least_cost ct_least_cost) ["periods", "ending"] "ending" := fun s us u _ hl => match us, hl with | [_], _ => .of_eq rfl
  have F_cost_lines := fun_mk (st := s_cost_lines) l_cost_lines c_cost_lines k_cost_lines
  have B_cost_lines := F_cost_lines.binds (ps := ["periods"]) fun _ _ _ _ _ _ us hl => match us, hl with | [_], _ => rfl
  have F_greatest_forced := fun_mk (st := s_greatest_forced) l_greatest_forced c_greatest_forced k_greatest_forced
  have K_greatest_forced : BindK K (PySem.W.fnOf "greatest_forced" "greatest_forced" (defArgs s_greatest_forced) (defBody s_greatest_forced) (defScope s_greatest_forced) .none (.ref kd_greatest_forced) dc_greatest_forced pm_greatest_forced an_greatest_forced cd_greatest_forced ct_greatest_forced) ["periods", "cap"] "cap" := fun s us u _ hl => match us, hl with | [_], _ => .of_eq rfl
  have F_standard_continuation := fun_mk (st := s_standard_continuation) l_standard_continuation c_standard_continuation k_standard_continuation
  have D_standard_continuation : BindD K (PySem.W.fnOf "standard_continuation" "standard_continuation" (defArgs s_standard_continuation) (defBody s_standard_continuation) (defScope s_standard_continuation) .none (.ref kd_standard_continuation) dc_standard_continuation pm_standard_continuation an_standard_continuation cd_standard_continuation ct_standard_continuation) ["periods", "ending", "cap"] .none := bindD_none (FunD.binds0 (F := ⟨⟨_, _, _, _, _, _, _, _, _, _, rfl, l_standard_continuation, c_standard_continuation, .inl ⟨rfl, rfl⟩, .inr ⟨kd_standard_continuation, rfl, fun q hq => by rw [List.mem_singleton.mp hq]; exact ⟨_, d_standard_continuation, by first | rfl | exact ⟨_, rfl⟩⟩⟩⟩, k_standard_continuation⟩) (kws := [("cap", .non)]) (ps := ["periods", "ending", "cap"]) 2 (by simp) rfl (fun D doc pm an cdv ct us ks hu hk => match us, ks, hu, hk with | [_, _], [_], _, _ => ⟨_, _, _, _, _, _, rfl, rfl, rfl⟩))
  have K_standard_continuation : BindK K (PySem.W.fnOf "standard_continuation" "standard_continuation" (defArgs s_standard_continuation) (defBody s_standard_continuation) (defScope s_standard_continuation) .none (.ref kd_standard_continuation) dc_standard_continuation pm_standard_continuation an_standard_continuation cd_standard_continuation ct_standard_continuation) ["periods", "ending", "cap"] "cap" := fun s us u _ hl => match us, hl with | [_, _], _ => .of_eq rfl
  have F_law_cell := fun_mk (st := s_law_cell) l_law_cell c_law_cell k_law_cell
  have B_law_cell := F_law_cell.binds (ps := ["_law_script", "_law_k"]) fun _ _ _ _ _ _ us hl => match us, hl with | [_, _], _ => rfl
  have F_law_number := fun_mk (st := s_law_number) l_law_number c_law_number k_law_number
  have B_law_number := F_law_number.binds (ps := ["_law_script", "_law_k"]) fun _ _ _ _ _ _ us hl => match us, hl with | [_, _], _ => rfl
  have F_law_period := fun_mk (st := s_law_period) l_law_period c_law_period k_law_period
  have B_law_period := F_law_period.binds (ps := ["_law_number_here", "_law_scale"]) fun _ _ _ _ _ _ us hl => match us, hl with | [_, _], _ => rfl
  have F_law_periods := fun_mk (st := s_law_periods) l_law_periods c_law_periods k_law_periods
  have B_law_periods := F_law_periods.binds (ps := ["_law_script", "_law_start", "_law_count", "_law_scale"]) fun _ _ _ _ _ _ us hl => match us, hl with | [_, _, _, _], _ => rfl
  have F_law_shape := fun_mk (st := s_law_shape) l_law_shape c_law_shape k_law_shape
  have B_law_shape := F_law_shape.binds (ps := ["_law_script", "_law_most"]) fun _ _ _ _ _ _ us hl => match us, hl with | [_, _], _ => rfl
  have F_law_cap := fun_mk (st := s_law_cap) l_law_cap c_law_cap k_law_cap
  have B_law_cap := F_law_cap.binds (ps := ["_law_script", "_law_scale"]) fun _ _ _ _ _ _ us hl => match us, hl with | [_, _], _ => rfl
  have F_law_costs := fun_mk (st := s_law_costs) l_law_costs c_law_costs k_law_costs
  have B_law_costs := F_law_costs.binds (ps := ["_law_periods_here"]) fun _ _ _ _ _ _ us hl => match us, hl with | [_], _ => rfl
  have F_law_high := fun_mk (st := s_law_high) l_law_high c_law_high k_law_high
  have B_law_high := F_law_high.binds (ps := ["_law_periods_here", "_law_final_here"]) fun _ _ _ _ _ _ us hl => match us, hl with | [_, _], _ => rfl
  have F_law_least := fun_mk (st := s_law_least) l_law_least c_law_least k_law_least
  have B_law_least := F_law_least.binds (ps := ["_law_periods_here", "_law_final_here"]) fun _ _ _ _ _ _ us hl => match us, hl with | [_, _], _ => rfl
  have F_law_same := fun_mk (st := s_law_same) l_law_same c_law_same k_law_same
  have B_law_same := F_law_same.binds (ps := ["_law_actual", "_law_due_here"]) fun _ _ _ _ _ _ us hl => match us, hl with | [_, _], _ => rfl
  have F_law_lines := fun_mk (st := s_law_lines) l_law_lines c_law_lines k_law_lines
  have B_law_lines := F_law_lines.binds (ps := ["_law_periods_here"]) fun _ _ _ _ _ _ us hl => match us, hl with | [_], _ => rfl
  have F_law_forced := fun_mk (st := s_law_forced) l_law_forced c_law_forced k_law_forced
  have B_law_forced := F_law_forced.binds (ps := ["_law_periods_here", "_law_final_here", "_law_ceiling"]) fun _ _ _ _ _ _ us hl => match us, hl with | [_, _, _], _ => rfl
  have F_law_quiet := fun_mk (st := s_law_quiet) l_law_quiet c_law_quiet k_law_quiet
  have B_law_quiet := F_law_quiet.binds (ps := ["_law_rows", "_law_many"]) fun _ _ _ _ _ _ us hl => match us, hl with | [_, _], _ => rfl
  have F_law_edge := fun_mk (st := s_law_edge) l_law_edge c_law_edge k_law_edge
  have B_law_edge := F_law_edge.binds (ps := ["_law_rows", "_law_ceiling"]) fun _ _ _ _ _ _ us hl => match us, hl with | [_, _], _ => rfl
  have F_law_final := fun_mk (st := s_law_final) l_law_final c_law_final k_law_final
  have B_law_final := F_law_final.binds (ps := ["_law_rows", "_law_ceiling", "_law_number_here"]) fun _ _ _ _ _ _ us hl => match us, hl with | [_, _, _], _ => rfl
  have F_law_due := fun_mk (st := s_law_due) l_law_due c_law_due k_law_due
  have B_law_due := F_law_due.binds (ps := ["_law_rows", "_law_final_here", "_law_ceiling"]) fun _ _ _ _ _ _ us hl => match us, hl with | [_, _, _], _ => rfl
  have F_law_told := fun_mk (st := s_law_told) l_law_told c_law_told k_law_told
  have B_law_told := F_law_told.binds (ps := ["_law_rows", "_law_final_here", "_law_ceiling", "_law_named"]) fun _ _ _ _ _ _ us hl => match us, hl with | [_, _, _, _], _ => rfl
  have F_law_right := fun_mk (st := s_law_right) l_law_right c_law_right k_law_right
  have B_law_right := F_law_right.binds (ps := ["_law_rows", "_law_final_here", "_law_ceiling"]) fun _ _ _ _ _ _ us hl => match us, hl with | [_, _, _], _ => rfl
  have F_law := fun_mk (st := s_law) l_law c_law k_law
  refine ⟨(PySem.W.fnOf "law" "law" (defArgs s_law) (defBody s_law) (defScope s_law) .none kV_law dc_law pm_law an_law cd_law ct_law), fun s v => .of_eq rfl, fun base _ _ => ?_⟩
  have C_check_periods : Df P w K mg base (caOf [e_InvalidPeriod, e_SetupAboveCap, e_NoPeriods, e_TooManyOrders, e_InvalidOrder, e_Shortage, e_Excess, e_InvalidEnding, e_NotForced, e_NotSafe, e_Finished, e_PlanError]) cfG 1 "check_periods" a_check_periods _ ["periods", "cap"] .e f_check_periods := df_mk (ok_check_periods F_check_periods BB T ) rfl (PySem.W.mg_of X G n_check_periods) k_check_periods (fun ds h => runB_len ds h)
  have C_last_costs : Df P w K mg base (caOf [e_InvalidPeriod, e_SetupAboveCap, e_NoPeriods, e_TooManyOrders, e_InvalidOrder, e_Shortage, e_Excess, e_InvalidEnding, e_NotForced, e_NotSafe, e_Finished, e_PlanError]) cfG 1 "last_costs" a_last_costs _ ["periods", "costs", "count", "ending"] .e f_last_costs := df_mk (ok_last_costs F_last_costs BB T ) rfl (PySem.W.mg_of X G n_last_costs) k_last_costs (fun ds h => runB_len ds h)
  have C_law_cell : Df P w K mg base (caOf [e_InvalidPeriod, e_SetupAboveCap, e_NoPeriods, e_TooManyOrders, e_InvalidOrder, e_Shortage, e_Excess, e_InvalidEnding, e_NotForced, e_NotSafe, e_Finished, e_PlanError]) cfG 1 "_law_cell" a_law_cell _ ["_law_script", "_law_k"] .e f_law_cell := df_mk (ok_law_cell F_law_cell BB T ) rfl (PySem.W.mg_of X G n_law_cell) k_law_cell (fun ds h => runB_len ds h)
  have C_law_period : Df P w K mg base (caOf [e_InvalidPeriod, e_SetupAboveCap, e_NoPeriods, e_TooManyOrders, e_InvalidOrder, e_Shortage, e_Excess, e_InvalidEnding, e_NotForced, e_NotSafe, e_Finished, e_PlanError]) cfG 1 "_law_period" a_law_period _ ["_law_number_here", "_law_scale"] .e f_law_period := df_mk (ok_law_period F_law_period BB T ) rfl (PySem.W.mg_of X G n_law_period) k_law_period (fun ds h => runB_len ds h)
  have C_law_costs : Df P w K mg base (caOf [e_InvalidPeriod, e_SetupAboveCap, e_NoPeriods, e_TooManyOrders, e_InvalidOrder, e_Shortage, e_Excess, e_InvalidEnding, e_NotForced, e_NotSafe, e_Finished, e_PlanError]) cfG 1 "_law_costs" a_law_costs _ ["_law_periods_here"] .e f_law_costs := df_mk (ok_law_costs F_law_costs BB T ) rfl (PySem.W.mg_of X G n_law_costs) k_law_costs (fun ds h => runB_len ds h)
  have C_law_high : Df P w K mg base (caOf [e_InvalidPeriod, e_SetupAboveCap, e_NoPeriods, e_TooManyOrders, e_InvalidOrder, e_Shortage, e_Excess, e_InvalidEnding, e_NotForced, e_NotSafe, e_Finished, e_PlanError]) cfG 1 "_law_high" a_law_high _ ["_law_periods_here", "_law_final_here"] .e f_law_high := df_mk (ok_law_high F_law_high BB T ) rfl (PySem.W.mg_of X G n_law_high) k_law_high (fun ds h => runB_len ds h)
  have C_law_quiet : Df P w K mg base (caOf [e_InvalidPeriod, e_SetupAboveCap, e_NoPeriods, e_TooManyOrders, e_InvalidOrder, e_Shortage, e_Excess, e_InvalidEnding, e_NotForced, e_NotSafe, e_Finished, e_PlanError]) cfG 1 "_law_quiet" a_law_quiet _ ["_law_rows", "_law_many"] .e f_law_quiet := df_mk (ok_law_quiet F_law_quiet BB T ) rfl (PySem.W.mg_of X G n_law_quiet) k_law_quiet (fun ds h => runB_len ds h)
  have C_least_costs : Df P w K mg base (caOf [e_InvalidPeriod, e_SetupAboveCap, e_NoPeriods, e_TooManyOrders, e_InvalidOrder, e_Shortage, e_Excess, e_InvalidEnding, e_NotForced, e_NotSafe, e_Finished, e_PlanError]) cfG 2 "least_costs" a_least_costs _ ["periods"] .o f_least_costs := df_mk (ok_least_costs F_least_costs BB T C_check_periods D_check_periods C_last_costs B_last_costs) rfl (PySem.W.mg_of X G n_least_costs) k_least_costs (fun ds h => runB_len ds h)
  have C_check_ending : Df P w K mg base (caOf [e_InvalidPeriod, e_SetupAboveCap, e_NoPeriods, e_TooManyOrders, e_InvalidOrder, e_Shortage, e_Excess, e_InvalidEnding, e_NotForced, e_NotSafe, e_Finished, e_PlanError]) cfG 2 "check_ending" a_check_ending _ ["periods", "ending"] .e f_check_ending := df_mk (ok_check_ending F_check_ending BB T C_check_periods D_check_periods) rfl (PySem.W.mg_of X G n_check_ending) k_check_ending (fun ds h => runB_len ds h)
  have C_law_number : Df P w K mg base (caOf [e_InvalidPeriod, e_SetupAboveCap, e_NoPeriods, e_TooManyOrders, e_InvalidOrder, e_Shortage, e_Excess, e_InvalidEnding, e_NotForced, e_NotSafe, e_Finished, e_PlanError]) cfG 2 "_law_number" a_law_number _ ["_law_script", "_law_k"] .e f_law_number := df_mk (ok_law_number F_law_number BB T C_law_cell B_law_cell) rfl (PySem.W.mg_of X G n_law_number) k_law_number (fun ds h => runB_len ds h)
  have C_law_shape : Df P w K mg base (caOf [e_InvalidPeriod, e_SetupAboveCap, e_NoPeriods, e_TooManyOrders, e_InvalidOrder, e_Shortage, e_Excess, e_InvalidEnding, e_NotForced, e_NotSafe, e_Finished, e_PlanError]) cfG 2 "_law_shape" a_law_shape _ ["_law_script", "_law_most"] .e f_law_shape := df_mk (ok_law_shape F_law_shape BB T C_law_cell B_law_cell) rfl (PySem.W.mg_of X G n_law_shape) k_law_shape (fun ds h => runB_len ds h)
  have C_law_least : Df P w K mg base (caOf [e_InvalidPeriod, e_SetupAboveCap, e_NoPeriods, e_TooManyOrders, e_InvalidOrder, e_Shortage, e_Excess, e_InvalidEnding, e_NotForced, e_NotSafe, e_Finished, e_PlanError]) cfG 2 "_law_least" a_law_least _ ["_law_periods_here", "_law_final_here"] .e f_law_least := df_mk (ok_law_least F_law_least BB T C_law_costs B_law_costs C_law_high B_law_high) rfl (PySem.W.mg_of X G n_law_least) k_law_least (fun ds h => runB_len ds h)
  have C_law_lines : Df P w K mg base (caOf [e_InvalidPeriod, e_SetupAboveCap, e_NoPeriods, e_TooManyOrders, e_InvalidOrder, e_Shortage, e_Excess, e_InvalidEnding, e_NotForced, e_NotSafe, e_Finished, e_PlanError]) cfG 2 "_law_lines" a_law_lines _ ["_law_periods_here"] .e f_law_lines := df_mk (ok_law_lines F_law_lines BB T C_law_costs B_law_costs) rfl (PySem.W.mg_of X G n_law_lines) k_law_lines (fun ds h => runB_len ds h)
  have C_least_cost : Df P w K mg base (caOf [e_InvalidPeriod, e_SetupAboveCap, e_NoPeriods, e_TooManyOrders, e_InvalidOrder, e_Shortage, e_Excess, e_InvalidEnding, e_NotForced, e_NotSafe, e_Finished, e_PlanError]) cfG 3 "least_cost" a_least_cost _ ["periods", "ending"] .e f_least_cost := df_mk (ok_least_cost F_least_cost BB T C_last_costs B_last_costs C_least_costs B_least_costs C_check_ending B_check_ending) rfl (PySem.W.mg_of X G n_least_cost) k_least_cost (fun ds h => runB_len ds h)
  have C_cost_lines : Df P w K mg base (caOf [e_InvalidPeriod, e_SetupAboveCap, e_NoPeriods, e_TooManyOrders, e_InvalidOrder, e_Shortage, e_Excess, e_InvalidEnding, e_NotForced, e_NotSafe, e_Finished, e_PlanError]) cfG 3 "cost_lines" a_cost_lines _ ["periods"] .e f_cost_lines := df_mk (ok_cost_lines F_cost_lines BB T C_last_costs B_last_costs C_least_costs B_least_costs) rfl (PySem.W.mg_of X G n_cost_lines) k_cost_lines (fun ds h => runB_len ds h)
  have C_law_periods : Df P w K mg base (caOf [e_InvalidPeriod, e_SetupAboveCap, e_NoPeriods, e_TooManyOrders, e_InvalidOrder, e_Shortage, e_Excess, e_InvalidEnding, e_NotForced, e_NotSafe, e_Finished, e_PlanError]) cfG 3 "_law_periods" a_law_periods _ ["_law_script", "_law_start", "_law_count", "_law_scale"] .o f_law_periods := df_mk (ok_law_periods F_law_periods BB T C_law_number B_law_number C_law_period B_law_period) rfl (PySem.W.mg_of X G n_law_periods) k_law_periods (fun ds h => runB_len ds h)
  have C_law_cap : Df P w K mg base (caOf [e_InvalidPeriod, e_SetupAboveCap, e_NoPeriods, e_TooManyOrders, e_InvalidOrder, e_Shortage, e_Excess, e_InvalidEnding, e_NotForced, e_NotSafe, e_Finished, e_PlanError]) cfG 3 "_law_cap" a_law_cap _ ["_law_script", "_law_scale"] .e f_law_cap := df_mk (ok_law_cap F_law_cap BB T C_law_number B_law_number) rfl (PySem.W.mg_of X G n_law_cap) k_law_cap (fun ds h => runB_len ds h)
  have C_law_forced : Df P w K mg base (caOf [e_InvalidPeriod, e_SetupAboveCap, e_NoPeriods, e_TooManyOrders, e_InvalidOrder, e_Shortage, e_Excess, e_InvalidEnding, e_NotForced, e_NotSafe, e_Finished, e_PlanError]) cfG 3 "_law_forced" a_law_forced _ ["_law_periods_here", "_law_final_here", "_law_ceiling"] .e f_law_forced := df_mk (ok_law_forced F_law_forced BB T C_law_costs B_law_costs C_law_least B_law_least) rfl (PySem.W.mg_of X G n_law_forced) k_law_forced (fun ds h => runB_len ds h)
  have C_law_edge : Df P w K mg base (caOf [e_InvalidPeriod, e_SetupAboveCap, e_NoPeriods, e_TooManyOrders, e_InvalidOrder, e_Shortage, e_Excess, e_InvalidEnding, e_NotForced, e_NotSafe, e_Finished, e_PlanError]) cfG 3 "_law_edge" a_law_edge _ ["_law_rows", "_law_ceiling"] .e f_law_edge := df_mk (ok_law_edge F_law_edge BB T C_law_costs B_law_costs C_law_lines B_law_lines) rfl (PySem.W.mg_of X G n_law_edge) k_law_edge (fun ds h => runB_len ds h)
  have C_greatest_forced : Df P w K mg base (caOf [e_InvalidPeriod, e_SetupAboveCap, e_NoPeriods, e_TooManyOrders, e_InvalidOrder, e_Shortage, e_Excess, e_InvalidEnding, e_NotForced, e_NotSafe, e_Finished, e_PlanError]) cfG 4 "greatest_forced" a_greatest_forced _ ["periods", "cap"] .e f_greatest_forced := df_mk (ok_greatest_forced F_greatest_forced BB T C_check_periods D_check_periods C_least_cost D_least_cost C_cost_lines B_cost_lines) rfl (PySem.W.mg_of X G n_greatest_forced) k_greatest_forced (fun ds h => runB_len ds h)
  have C_law_final : Df P w K mg base (caOf [e_InvalidPeriod, e_SetupAboveCap, e_NoPeriods, e_TooManyOrders, e_InvalidOrder, e_Shortage, e_Excess, e_InvalidEnding, e_NotForced, e_NotSafe, e_Finished, e_PlanError]) cfG 4 "_law_final" a_law_final _ ["_law_rows", "_law_ceiling", "_law_number_here"] .e f_law_final_k12 := df_mk (ok_law_final F_law_final BB T C_law_edge B_law_edge) rfl (PySem.W.mg_of X G n_law_final) k_law_final (fun ds h => runB_len ds h)
  have C_law_due : Df P w K mg base (caOf [e_InvalidPeriod, e_SetupAboveCap, e_NoPeriods, e_TooManyOrders, e_InvalidOrder, e_Shortage, e_Excess, e_InvalidEnding, e_NotForced, e_NotSafe, e_Finished, e_PlanError]) cfG 4 "_law_due" a_law_due _ ["_law_rows", "_law_final_here", "_law_ceiling"] .e f_law_due_k12 := df_mk (ok_law_due F_law_due BB T C_law_least B_law_least C_law_forced B_law_forced) rfl (PySem.W.mg_of X G n_law_due) k_law_due (fun ds h => runB_len ds h)
  have C_standard_continuation : Df P w K mg base (caOf [e_InvalidPeriod, e_SetupAboveCap, e_NoPeriods, e_TooManyOrders, e_InvalidOrder, e_Shortage, e_Excess, e_InvalidEnding, e_NotForced, e_NotSafe, e_Finished, e_PlanError]) cfG 5 "standard_continuation" a_standard_continuation _ ["periods", "ending", "cap"] .o f_standard_continuation := df_mk (ok_standard_continuation F_standard_continuation BB T C_least_cost K_least_cost C_greatest_forced K_greatest_forced) rfl (PySem.W.mg_of X G n_standard_continuation) k_standard_continuation (fun ds h => runB_len ds h)
  have C_law_told : Df P w K mg base (caOf [e_InvalidPeriod, e_SetupAboveCap, e_NoPeriods, e_TooManyOrders, e_InvalidOrder, e_Shortage, e_Excess, e_InvalidEnding, e_NotForced, e_NotSafe, e_Finished, e_PlanError]) cfG 6 "_law_told" a_law_told _ ["_law_rows", "_law_final_here", "_law_ceiling", "_law_named"] (.w (.c .g (.r (.r .g)))) f_law_told_k12 := df_mk (ok_law_told F_law_told BB T C_standard_continuation D_standard_continuation K_standard_continuation) rfl (PySem.W.mg_of X G n_law_told) k_law_told (fun ds h => runB_len ds h)
  have C_law_same : Df P w K mg base (caOf [e_InvalidPeriod, e_SetupAboveCap, e_NoPeriods, e_TooManyOrders, e_InvalidOrder, e_Shortage, e_Excess, e_InvalidEnding, e_NotForced, e_NotSafe, e_Finished, e_PlanError]) cfG 10 "_law_same" a_law_same _ ["_law_actual", "_law_due_here"] .e f_law_same := df_mk (ok_law_same F_law_same BB T (PySem.W.mg_of X G n_law_same) k_law_same B_law_same) rfl (PySem.W.mg_of X G n_law_same) k_law_same (fun ds h => runB_len ds h)
  have C_law_right : Df P w K mg base (caOf [e_InvalidPeriod, e_SetupAboveCap, e_NoPeriods, e_TooManyOrders, e_InvalidOrder, e_Shortage, e_Excess, e_InvalidEnding, e_NotForced, e_NotSafe, e_Finished, e_PlanError]) cfG 11 "_law_right" a_law_right _ ["_law_rows", "_law_final_here", "_law_ceiling"] .e f_law_right_k12 := df_mk (ok_law_right F_law_right BB T C_law_same B_law_same C_law_due B_law_due C_law_told B_law_told) rfl (PySem.W.mg_of X G n_law_right) k_law_right (fun ds h => runB_len ds h)
  exact law_end (ok_law F_law BB T C_law_number B_law_number C_law_periods B_law_periods C_law_shape B_law_shape C_law_cap B_law_cap C_law_quiet B_law_quiet C_law_final B_law_final C_law_right B_law_right) nl law_true
end Lw
open PySem PySem.W PyProof.Rows
set_option maxRecDepth 100000 in
set_option maxHeartbeats 8000000 in
theorem PySem.Challenge.cw_laterwants_k12_standard_continuation_holds : PySem.Challenge.rw_laterwants_k12_standard_continuation.Holds := by
  w_on; o_law; k_head; (case hw => w_witness2)
  k_fill
  refine L2.walk_ofB (l := PySem.Challenge.rw_laterwants_k12_standard_continuation) (n := 63) (k := 12) (x := "_law_script") (CX := fun w => L2.CX (PySem.Challenge.rw_laterwants_k12_standard_continuation).prog w) (sp := fun w => Ct.spLw _ 63) rfl (by decide) rfl ⟨rfl, by decide, by decide⟩ (fun w h Y => PySem.W.kIn_of Y) ?F (fun _ _ a ns hl hb hO hS => ⟨a, ns, rfl, hS, hl, hb, hO, fun _ => rfl⟩) (fun _ _ _ _ _ h => Ct.cx_nil h)
  case F =>
    intro w mg fa h KX G hmg
    refine' Lw.all_mk KX G hmg ?nl ?z_ValueError ?z_abs ?z_bool ?z_enumerate ?z_int ?z_isinstance ?z_len ?z_list ?z_max ?z_min ?z_range ?z_reversed ?z_sum ?z_tuple ?ns_InvalidPeriod ?ns_SetupAboveCap ?ns_NoPeriods ?ns_TooManyOrders ?ns_InvalidOrder ?ns_Shortage ?ns_Excess ?ns_InvalidEnding ?ns_NotForced ?ns_NotSafe ?ns_Finished ?ns_PlanError ?x_InvalidPeriod ?x_SetupAboveCap ?q_NoPeriods ?kp_NoPeriods ?sb_NoPeriods ?ty_NoPeriods ?q_TooManyOrders ?kp_TooManyOrders ?sb_TooManyOrders ?ty_TooManyOrders ?x_InvalidOrder ?x_Shortage ?x_Excess ?q_InvalidEnding ?kp_InvalidEnding ?sb_InvalidEnding ?ty_InvalidEnding ?q_NotForced ?kp_NotForced ?sb_NotForced ?ty_NotForced ?x_NotSafe ?q_Finished ?kp_Finished ?sb_Finished ?ty_Finished ?ec_NoPeriods ?ec_InvalidEnding ?ec_NotForced ?kt_InvalidEnding_NoPeriods ?kt_InvalidEnding_NotForced ?kt_InvalidEnding_PlanError ?kt_InvalidEnding_ValueError ?kt_NoPeriods_PlanError ?kt_NoPeriods_ValueError ?kt_NotForced_Excess ?kt_NotForced_Finished ?kt_NotForced_InvalidEnding ?kt_NotForced_InvalidOrder ?kt_NotForced_InvalidPeriod ?kt_NotForced_NoPeriods ?kt_NotForced_NotSafe ?kt_NotForced_PlanError ?kt_NotForced_SetupAboveCap ?kt_NotForced_Shortage ?kt_NotForced_TooManyOrders ?kt_NotForced_ValueError ?hs1_NoPeriods ?hs2_NoPeriods ?hs3_NoPeriods ?hs1_InvalidEnding ?hs2_InvalidEnding ?hs3_InvalidEnding ?hs1_NotForced ?hs2_NotForced ?hs3_NotForced ?sb_InvalidPeriod_NoPeriods ?sb_InvalidPeriod_InvalidEnding ?sb_InvalidPeriod_NotForced ?sb_SetupAboveCap_NoPeriods ?sb_SetupAboveCap_InvalidEnding ?sb_SetupAboveCap_NotForced ?sb_NoPeriods_NoPeriods ?sb_NoPeriods_InvalidEnding ?sb_NoPeriods_NotForced ?sb_TooManyOrders_NoPeriods ?sb_TooManyOrders_InvalidEnding ?sb_TooManyOrders_NotForced ?sb_InvalidOrder_NoPeriods ?sb_InvalidOrder_InvalidEnding ?sb_InvalidOrder_NotForced ?sb_Shortage_NoPeriods ?sb_Shortage_InvalidEnding ?sb_Shortage_NotForced ?sb_Excess_NoPeriods ?sb_Excess_InvalidEnding ?sb_Excess_NotForced ?sb_InvalidEnding_NoPeriods ?sb_InvalidEnding_InvalidEnding ?sb_InvalidEnding_NotForced ?sb_NotForced_NoPeriods ?sb_NotForced_InvalidEnding ?sb_NotForced_NotForced ?sb_NotSafe_NoPeriods ?sb_NotSafe_InvalidEnding ?sb_NotSafe_NotForced ?sb_Finished_NoPeriods ?sb_Finished_InvalidEnding ?sb_Finished_NotForced ?n_check_periods ?l_check_periods ?c_check_periods ?k_check_periods ?d_check_periods ?n_last_costs ?l_last_costs ?c_last_costs ?k_last_costs ?n_least_costs ?l_least_costs ?c_least_costs ?k_least_costs ?n_check_ending ?l_check_ending ?c_check_ending ?k_check_ending ?n_least_cost ?l_least_cost ?c_least_cost ?k_least_cost ?d_least_cost ?n_cost_lines ?l_cost_lines ?c_cost_lines ?k_cost_lines ?n_greatest_forced ?l_greatest_forced ?c_greatest_forced ?k_greatest_forced ?d_greatest_forced ?n_standard_continuation ?l_standard_continuation ?c_standard_continuation ?k_standard_continuation ?d_standard_continuation ?n_law_cell ?l_law_cell ?c_law_cell ?k_law_cell ?n_law_number ?l_law_number ?c_law_number ?k_law_number ?n_law_period ?l_law_period ?c_law_period ?k_law_period ?n_law_periods ?l_law_periods ?c_law_periods ?k_law_periods ?n_law_shape ?l_law_shape ?c_law_shape ?k_law_shape ?n_law_cap ?l_law_cap ?c_law_cap ?k_law_cap ?n_law_costs ?l_law_costs ?c_law_costs ?k_law_costs ?n_law_high ?l_law_high ?c_law_high ?k_law_high ?n_law_least ?l_law_least ?c_law_least ?k_law_least ?n_law_same ?l_law_same ?c_law_same ?k_law_same ?n_law_lines ?l_law_lines ?c_law_lines ?k_law_lines ?n_law_forced ?l_law_forced ?c_law_forced ?k_law_forced ?n_law_quiet ?l_law_quiet ?c_law_quiet ?k_law_quiet ?n_law_edge ?l_law_edge ?c_law_edge ?k_law_edge ?n_law_final ?l_law_final ?c_law_final ?k_law_final ?n_law_due ?l_law_due ?c_law_due ?k_law_due ?n_law_told ?l_law_told ?c_law_told ?k_law_told ?n_law_right ?l_law_right ?c_law_right ?k_law_right ?n_law ?l_law ?c_law ?k_law
    (case nl => first | rfl | kernel_rfl | decide +kernel)
    (case z_ValueError => k_is)
    (case z_abs => k_is)
    (case z_bool => k_is)
    (case z_enumerate => k_is)
    (case z_int => k_is)
    (case z_isinstance => k_is)
    (case z_len => k_is)
    (case z_list => k_is)
    (case z_max => k_is)
    (case z_min => k_is)
    (case z_range => k_is)
    (case z_reversed => k_is)
    (case z_sum => k_is)
    (case z_tuple => k_is)
    (case ns_InvalidPeriod => k_is)
    (case ns_SetupAboveCap => k_is)
    (case ns_NoPeriods => k_is)
    (case ns_TooManyOrders => k_is)
    (case ns_InvalidOrder => k_is)
    (case ns_Shortage => k_is)
    (case ns_Excess => k_is)
    (case ns_InvalidEnding => k_is)
    (case ns_NotForced => k_is)
    (case ns_NotSafe => k_is)
    (case ns_Finished => k_is)
    (case ns_PlanError => k_is)
    (case x_InvalidPeriod => refine' Ct.mk_exF1 (msg := "invalid period") (j := 0) (p0 := ⟨7, 8, 7, 13⟩) (p1 := ⟨7, 8, 7, 15⟩) (p2 := ⟨7, 8, 7, 24⟩) (p3 := ⟨7, 25, 7, 41⟩) (p4 := ⟨7, 8, 7, 42⟩) (p5 := ⟨7, 8, 7, 42⟩) (q1 := ⟨8, 8, 8, 12⟩) (q2 := ⟨8, 8, 8, 18⟩) (q3 := ⟨8, 21, 8, 26⟩) (q4 := ⟨8, 8, 8, 26⟩) (s1 := ⟨6, 17, 6, 21⟩) (s2 := ⟨6, 23, 6, 28⟩) KX G ?gC_InvalidPeriod ?lC_InvalidPeriod ?sa_InvalidPeriod ?ga_InvalidPeriod ?gg_InvalidPeriod ?nf_InvalidPeriod ?iC_InvalidPeriod ?tC_InvalidPeriod ?kC_InvalidPeriod ?eC_InvalidPeriod ?vC_InvalidPeriod ?yC_InvalidPeriod ?hC_InvalidPeriod ?mC_InvalidPeriod ?oq_InvalidPeriod ?sG_InvalidPeriod ?lI_InvalidPeriod ?cI_InvalidPeriod ?lD_InvalidPeriod ?lE_InvalidPeriod ?sI_InvalidPeriod ?vD_InvalidPeriod ?fl_InvalidPeriod rfl ?rb_InvalidPeriod (fun _ _ _ _ => ⟨_, rfl⟩) (fun s qual ps dV kV doc pm an cda ct cc us hp hu => match ps, hp, us, hu with | [_, _], _, [_, _], _ => .of_eq rfl) (fun _ _ _ _ => rfl) (Ct.scpOk1 rfl rfl rfl rfl rfl); (case gC_InvalidPeriod => k_is); (case lC_InvalidPeriod => k_is); (case sa_InvalidPeriod => k_is); (case ga_InvalidPeriod => k_is); (case gg_InvalidPeriod => k_is); (case nf_InvalidPeriod => k_is); (case iC_InvalidPeriod => k_is); (case tC_InvalidPeriod => k_is); (case kC_InvalidPeriod => k_is); (case eC_InvalidPeriod => k_is); (case vC_InvalidPeriod => k_is); (case yC_InvalidPeriod => k_is); (case hC_InvalidPeriod => k_is); (case mC_InvalidPeriod => k_is); (case oq_InvalidPeriod => k_is); (case sG_InvalidPeriod => k_is); (case lI_InvalidPeriod => k_is); (case cI_InvalidPeriod => k_is); (case lD_InvalidPeriod => k_is); (case lE_InvalidPeriod => k_is); (case sI_InvalidPeriod => ks_is); (case vD_InvalidPeriod => rfl); (case fl_InvalidPeriod => first | rfl | decide +kernel); (case rb_InvalidPeriod => first | rfl | decide +kernel))
    (case x_SetupAboveCap => refine' Ct.mk_exF1 (msg := "setup cost above the cap") (j := 0) (p0 := ⟨12, 8, 12, 13⟩) (p1 := ⟨12, 8, 12, 15⟩) (p2 := ⟨12, 8, 12, 24⟩) (p3 := ⟨12, 25, 12, 51⟩) (p4 := ⟨12, 8, 12, 52⟩) (p5 := ⟨12, 8, 12, 52⟩) (q1 := ⟨13, 8, 13, 12⟩) (q2 := ⟨13, 8, 13, 18⟩) (q3 := ⟨13, 21, 13, 26⟩) (q4 := ⟨13, 8, 13, 26⟩) (s1 := ⟨11, 17, 11, 21⟩) (s2 := ⟨11, 23, 11, 28⟩) KX G ?gC_SetupAboveCap ?lC_SetupAboveCap ?sa_SetupAboveCap ?ga_SetupAboveCap ?gg_SetupAboveCap ?nf_SetupAboveCap ?iC_SetupAboveCap ?tC_SetupAboveCap ?kC_SetupAboveCap ?eC_SetupAboveCap ?vC_SetupAboveCap ?yC_SetupAboveCap ?hC_SetupAboveCap ?mC_SetupAboveCap ?oq_SetupAboveCap ?sG_SetupAboveCap ?lI_SetupAboveCap ?cI_SetupAboveCap ?lD_SetupAboveCap ?lE_SetupAboveCap ?sI_SetupAboveCap ?vD_SetupAboveCap ?fl_SetupAboveCap rfl ?rb_SetupAboveCap (fun _ _ _ _ => ⟨_, rfl⟩) (fun s qual ps dV kV doc pm an cda ct cc us hp hu => match ps, hp, us, hu with | [_, _], _, [_, _], _ => .of_eq rfl) (fun _ _ _ _ => rfl) (Ct.scpOk1 rfl rfl rfl rfl rfl); (case gC_SetupAboveCap => k_is); (case lC_SetupAboveCap => k_is); (case sa_SetupAboveCap => k_is); (case ga_SetupAboveCap => k_is); (case gg_SetupAboveCap => k_is); (case nf_SetupAboveCap => k_is); (case iC_SetupAboveCap => k_is); (case tC_SetupAboveCap => k_is); (case kC_SetupAboveCap => k_is); (case eC_SetupAboveCap => k_is); (case vC_SetupAboveCap => k_is); (case yC_SetupAboveCap => k_is); (case hC_SetupAboveCap => k_is); (case mC_SetupAboveCap => k_is); (case oq_SetupAboveCap => k_is); (case sG_SetupAboveCap => k_is); (case lI_SetupAboveCap => k_is); (case cI_SetupAboveCap => k_is); (case lD_SetupAboveCap => k_is); (case lE_SetupAboveCap => k_is); (case sI_SetupAboveCap => ks_is); (case vD_SetupAboveCap => rfl); (case fl_SetupAboveCap => first | rfl | decide +kernel); (case rb_SetupAboveCap => first | rfl | decide +kernel))
    (case q_NoPeriods => first | kernel_rfl | rfl | decide +kernel)
    (case kp_NoPeriods => k_is)
    (case sb_NoPeriods => k_is)
    (case ty_NoPeriods => k_is)
    (case q_TooManyOrders => first | kernel_rfl | rfl | decide +kernel)
    (case kp_TooManyOrders => k_is)
    (case sb_TooManyOrders => k_is)
    (case ty_TooManyOrders => k_is)
    (case x_InvalidOrder => refine' Ct.mk_exF1 (msg := "negative order") (j := 0) (p0 := ⟨21, 8, 21, 13⟩) (p1 := ⟨21, 8, 21, 15⟩) (p2 := ⟨21, 8, 21, 24⟩) (p3 := ⟨21, 25, 21, 41⟩) (p4 := ⟨21, 8, 21, 42⟩) (p5 := ⟨21, 8, 21, 42⟩) (q1 := ⟨22, 8, 22, 12⟩) (q2 := ⟨22, 8, 22, 18⟩) (q3 := ⟨22, 21, 22, 26⟩) (q4 := ⟨22, 8, 22, 26⟩) (s1 := ⟨20, 17, 20, 21⟩) (s2 := ⟨20, 23, 20, 28⟩) KX G ?gC_InvalidOrder ?lC_InvalidOrder ?sa_InvalidOrder ?ga_InvalidOrder ?gg_InvalidOrder ?nf_InvalidOrder ?iC_InvalidOrder ?tC_InvalidOrder ?kC_InvalidOrder ?eC_InvalidOrder ?vC_InvalidOrder ?yC_InvalidOrder ?hC_InvalidOrder ?mC_InvalidOrder ?oq_InvalidOrder ?sG_InvalidOrder ?lI_InvalidOrder ?cI_InvalidOrder ?lD_InvalidOrder ?lE_InvalidOrder ?sI_InvalidOrder ?vD_InvalidOrder ?fl_InvalidOrder rfl ?rb_InvalidOrder (fun _ _ _ _ => ⟨_, rfl⟩) (fun s qual ps dV kV doc pm an cda ct cc us hp hu => match ps, hp, us, hu with | [_, _], _, [_, _], _ => .of_eq rfl) (fun _ _ _ _ => rfl) (Ct.scpOk1 rfl rfl rfl rfl rfl); (case gC_InvalidOrder => k_is); (case lC_InvalidOrder => k_is); (case sa_InvalidOrder => k_is); (case ga_InvalidOrder => k_is); (case gg_InvalidOrder => k_is); (case nf_InvalidOrder => k_is); (case iC_InvalidOrder => k_is); (case tC_InvalidOrder => k_is); (case kC_InvalidOrder => k_is); (case eC_InvalidOrder => k_is); (case vC_InvalidOrder => k_is); (case yC_InvalidOrder => k_is); (case hC_InvalidOrder => k_is); (case mC_InvalidOrder => k_is); (case oq_InvalidOrder => k_is); (case sG_InvalidOrder => k_is); (case lI_InvalidOrder => k_is); (case cI_InvalidOrder => k_is); (case lD_InvalidOrder => k_is); (case lE_InvalidOrder => k_is); (case sI_InvalidOrder => ks_is); (case vD_InvalidOrder => rfl); (case fl_InvalidOrder => first | rfl | decide +kernel); (case rb_InvalidOrder => first | rfl | decide +kernel))
    (case x_Shortage => refine' Ct.mk_exF2 (msg := "not enough stock") (j := 0) (p0 := ⟨26, 8, 26, 13⟩) (p1 := ⟨26, 8, 26, 15⟩) (p2 := ⟨26, 8, 26, 24⟩) (p3 := ⟨26, 25, 26, 43⟩) (p4 := ⟨26, 8, 26, 44⟩) (p5 := ⟨26, 8, 26, 44⟩) (q1 := ⟨27, 8, 27, 12⟩) (q2 := ⟨27, 8, 27, 18⟩) (q3 := ⟨27, 21, 27, 26⟩) (q4 := ⟨27, 8, 27, 26⟩) (r1 := ⟨28, 8, 28, 12⟩) (r2 := ⟨28, 8, 28, 19⟩) (r3 := ⟨28, 22, 28, 28⟩) (r4 := ⟨28, 8, 28, 28⟩) (s1 := ⟨25, 17, 25, 21⟩) (s2 := ⟨25, 23, 25, 28⟩) (s3 := ⟨25, 30, 25, 36⟩) KX G ?gC_Shortage ?lC_Shortage ?sa_Shortage ?ga_Shortage ?gg_Shortage ?nf_Shortage ?ng_Shortage ?iC_Shortage ?tC_Shortage ?kC_Shortage ?eC_Shortage ?vC_Shortage ?yC_Shortage ?hC_Shortage ?mC_Shortage ?oq_Shortage ?sG_Shortage ?lI_Shortage ?cI_Shortage ?lD_Shortage ?lE_Shortage ?sI_Shortage ?vD_Shortage ?fl_Shortage rfl ?rb_Shortage (fun _ _ _ _ => ⟨_, rfl⟩) (fun s qual ps dV kV doc pm an cda ct cc us hp hu => match ps, hp, us, hu with | [_, _, _], _, [_, _, _], _ => .of_eq rfl) (fun _ _ _ _ => rfl) (fun _ _ _ _ => rfl) rfl (Ct.scpOk2 rfl rfl rfl rfl rfl rfl rfl rfl); (case gC_Shortage => k_is); (case lC_Shortage => k_is); (case sa_Shortage => k_is); (case ga_Shortage => k_is); (case gg_Shortage => k_is); (case nf_Shortage => k_is); (case ng_Shortage => k_is); (case iC_Shortage => k_is); (case tC_Shortage => k_is); (case kC_Shortage => k_is); (case eC_Shortage => k_is); (case vC_Shortage => k_is); (case yC_Shortage => k_is); (case hC_Shortage => k_is); (case mC_Shortage => k_is); (case oq_Shortage => k_is); (case sG_Shortage => k_is); (case lI_Shortage => k_is); (case cI_Shortage => k_is); (case lD_Shortage => k_is); (case lE_Shortage => k_is); (case sI_Shortage => ks_is); (case vD_Shortage => rfl); (case fl_Shortage => first | rfl | decide +kernel); (case rb_Shortage => first | rfl | decide +kernel))
    (case x_Excess => refine' Ct.mk_exF1 (msg := "more orders than known demand") (j := 0) (p0 := ⟨32, 8, 32, 13⟩) (p1 := ⟨32, 8, 32, 15⟩) (p2 := ⟨32, 8, 32, 24⟩) (p3 := ⟨32, 25, 32, 56⟩) (p4 := ⟨32, 8, 32, 57⟩) (p5 := ⟨32, 8, 32, 57⟩) (q1 := ⟨33, 8, 33, 12⟩) (q2 := ⟨33, 8, 33, 19⟩) (q3 := ⟨33, 22, 33, 28⟩) (q4 := ⟨33, 8, 33, 28⟩) (s1 := ⟨31, 17, 31, 21⟩) (s2 := ⟨31, 23, 31, 29⟩) KX G ?gC_Excess ?lC_Excess ?sa_Excess ?ga_Excess ?gg_Excess ?nf_Excess ?iC_Excess ?tC_Excess ?kC_Excess ?eC_Excess ?vC_Excess ?yC_Excess ?hC_Excess ?mC_Excess ?oq_Excess ?sG_Excess ?lI_Excess ?cI_Excess ?lD_Excess ?lE_Excess ?sI_Excess ?vD_Excess ?fl_Excess rfl ?rb_Excess (fun _ _ _ _ => ⟨_, rfl⟩) (fun s qual ps dV kV doc pm an cda ct cc us hp hu => match ps, hp, us, hu with | [_, _], _, [_, _], _ => .of_eq rfl) (fun _ _ _ _ => rfl) (Ct.scpOk1 rfl rfl rfl rfl rfl); (case gC_Excess => k_is); (case lC_Excess => k_is); (case sa_Excess => k_is); (case ga_Excess => k_is); (case gg_Excess => k_is); (case nf_Excess => k_is); (case iC_Excess => k_is); (case tC_Excess => k_is); (case kC_Excess => k_is); (case eC_Excess => k_is); (case vC_Excess => k_is); (case yC_Excess => k_is); (case hC_Excess => k_is); (case mC_Excess => k_is); (case oq_Excess => k_is); (case sG_Excess => k_is); (case lI_Excess => k_is); (case cI_Excess => k_is); (case lD_Excess => k_is); (case lE_Excess => k_is); (case sI_Excess => ks_is); (case vD_Excess => rfl); (case fl_Excess => first | rfl | decide +kernel); (case rb_Excess => first | rfl | decide +kernel))
    (case q_InvalidEnding => first | kernel_rfl | rfl | decide +kernel)
    (case kp_InvalidEnding => k_is)
    (case sb_InvalidEnding => k_is)
    (case ty_InvalidEnding => k_is)
    (case q_NotForced => first | kernel_rfl | rfl | decide +kernel)
    (case kp_NotForced => k_is)
    (case sb_NotForced => k_is)
    (case ty_NotForced => k_is)
    (case x_NotSafe => refine' Ct.mk_exF1 (msg := "not safe") (j := 0) (p0 := ⟨41, 8, 41, 13⟩) (p1 := ⟨41, 8, 41, 15⟩) (p2 := ⟨41, 8, 41, 24⟩) (p3 := ⟨41, 25, 41, 35⟩) (p4 := ⟨41, 8, 41, 36⟩) (p5 := ⟨41, 8, 41, 36⟩) (q1 := ⟨42, 8, 42, 12⟩) (q2 := ⟨42, 8, 42, 25⟩) (q3 := ⟨42, 28, 42, 40⟩) (q4 := ⟨42, 8, 42, 40⟩) (s1 := ⟨40, 17, 40, 21⟩) (s2 := ⟨40, 23, 40, 35⟩) KX G ?gC_NotSafe ?lC_NotSafe ?sa_NotSafe ?ga_NotSafe ?gg_NotSafe ?nf_NotSafe ?iC_NotSafe ?tC_NotSafe ?kC_NotSafe ?eC_NotSafe ?vC_NotSafe ?yC_NotSafe ?hC_NotSafe ?mC_NotSafe ?oq_NotSafe ?sG_NotSafe ?lI_NotSafe ?cI_NotSafe ?lD_NotSafe ?lE_NotSafe ?sI_NotSafe ?vD_NotSafe ?fl_NotSafe rfl ?rb_NotSafe (fun _ _ _ _ => ⟨_, rfl⟩) (fun s qual ps dV kV doc pm an cda ct cc us hp hu => match ps, hp, us, hu with | [_, _], _, [_, _], _ => .of_eq rfl) (fun _ _ _ _ => rfl) (Ct.scpOk1 rfl rfl rfl rfl rfl); (case gC_NotSafe => k_is); (case lC_NotSafe => k_is); (case sa_NotSafe => k_is); (case ga_NotSafe => k_is); (case gg_NotSafe => k_is); (case nf_NotSafe => k_is); (case iC_NotSafe => k_is); (case tC_NotSafe => k_is); (case kC_NotSafe => k_is); (case eC_NotSafe => k_is); (case vC_NotSafe => k_is); (case yC_NotSafe => k_is); (case hC_NotSafe => k_is); (case mC_NotSafe => k_is); (case oq_NotSafe => k_is); (case sG_NotSafe => k_is); (case lI_NotSafe => k_is); (case cI_NotSafe => k_is); (case lD_NotSafe => k_is); (case lE_NotSafe => k_is); (case sI_NotSafe => ks_is); (case vD_NotSafe => rfl); (case fl_NotSafe => first | rfl | decide +kernel); (case rb_NotSafe => first | rfl | decide +kernel))
    (case q_Finished => first | kernel_rfl | rfl | decide +kernel)
    (case kp_Finished => k_is)
    (case sb_Finished => k_is)
    (case ty_Finished => k_is)
    (case ec_NoPeriods => exact ⟨by k_is, by k_is, by k_is, by k_is, by k_is, by k_is, by k_is, by k_is⟩)
    (case ec_InvalidEnding => exact ⟨by k_is, by k_is, by k_is, by k_is, by k_is, by k_is, by k_is, by k_is⟩)
    (case ec_NotForced => exact ⟨by k_is, by k_is, by k_is, by k_is, by k_is, by k_is, by k_is, by k_is⟩)
    (case kt_InvalidEnding_NoPeriods => first | kernel_rfl | rfl | decide +kernel)
    (case kt_InvalidEnding_NotForced => first | kernel_rfl | rfl | decide +kernel)
    (case kt_InvalidEnding_PlanError => first | kernel_rfl | rfl | decide +kernel)
    (case kt_InvalidEnding_ValueError => first | kernel_rfl | rfl | decide +kernel)
    (case kt_NoPeriods_PlanError => first | kernel_rfl | rfl | decide +kernel)
    (case kt_NoPeriods_ValueError => first | kernel_rfl | rfl | decide +kernel)
    (case kt_NotForced_Excess => first | kernel_rfl | rfl | decide +kernel)
    (case kt_NotForced_Finished => first | kernel_rfl | rfl | decide +kernel)
    (case kt_NotForced_InvalidEnding => first | kernel_rfl | rfl | decide +kernel)
    (case kt_NotForced_InvalidOrder => first | kernel_rfl | rfl | decide +kernel)
    (case kt_NotForced_InvalidPeriod => first | kernel_rfl | rfl | decide +kernel)
    (case kt_NotForced_NoPeriods => first | kernel_rfl | rfl | decide +kernel)
    (case kt_NotForced_NotSafe => first | kernel_rfl | rfl | decide +kernel)
    (case kt_NotForced_PlanError => first | kernel_rfl | rfl | decide +kernel)
    (case kt_NotForced_SetupAboveCap => first | kernel_rfl | rfl | decide +kernel)
    (case kt_NotForced_Shortage => first | kernel_rfl | rfl | decide +kernel)
    (case kt_NotForced_TooManyOrders => first | kernel_rfl | rfl | decide +kernel)
    (case kt_NotForced_ValueError => first | kernel_rfl | rfl | decide +kernel)
    (case hs1_NoPeriods => k_is)
    (case hs2_NoPeriods => k_is)
    (case hs3_NoPeriods => k_is)
    (case hs1_InvalidEnding => k_is)
    (case hs2_InvalidEnding => k_is)
    (case hs3_InvalidEnding => k_is)
    (case hs1_NotForced => k_is)
    (case hs2_NotForced => k_is)
    (case hs3_NotForced => k_is)
    (case sb_InvalidPeriod_NoPeriods => k_is)
    (case sb_InvalidPeriod_InvalidEnding => k_is)
    (case sb_InvalidPeriod_NotForced => k_is)
    (case sb_SetupAboveCap_NoPeriods => k_is)
    (case sb_SetupAboveCap_InvalidEnding => k_is)
    (case sb_SetupAboveCap_NotForced => k_is)
    (case sb_NoPeriods_NoPeriods => k_is)
    (case sb_NoPeriods_InvalidEnding => k_is)
    (case sb_NoPeriods_NotForced => k_is)
    (case sb_TooManyOrders_NoPeriods => k_is)
    (case sb_TooManyOrders_InvalidEnding => k_is)
    (case sb_TooManyOrders_NotForced => k_is)
    (case sb_InvalidOrder_NoPeriods => k_is)
    (case sb_InvalidOrder_InvalidEnding => k_is)
    (case sb_InvalidOrder_NotForced => k_is)
    (case sb_Shortage_NoPeriods => k_is)
    (case sb_Shortage_InvalidEnding => k_is)
    (case sb_Shortage_NotForced => k_is)
    (case sb_Excess_NoPeriods => k_is)
    (case sb_Excess_InvalidEnding => k_is)
    (case sb_Excess_NotForced => k_is)
    (case sb_InvalidEnding_NoPeriods => k_is)
    (case sb_InvalidEnding_InvalidEnding => k_is)
    (case sb_InvalidEnding_NotForced => k_is)
    (case sb_NotForced_NoPeriods => k_is)
    (case sb_NotForced_InvalidEnding => k_is)
    (case sb_NotForced_NotForced => k_is)
    (case sb_NotSafe_NoPeriods => k_is)
    (case sb_NotSafe_InvalidEnding => k_is)
    (case sb_NotSafe_NotForced => k_is)
    (case sb_Finished_NoPeriods => k_is)
    (case sb_Finished_InvalidEnding => k_is)
    (case sb_Finished_NotForced => k_is)
    (case n_check_periods => k_is)
    (case l_check_periods => k_is)
    (case c_check_periods => k_is)
    (case k_check_periods => k_is)
    (case d_check_periods => k_is)
    (case n_last_costs => k_is)
    (case l_last_costs => k_is)
    (case c_last_costs => k_is)
    (case k_last_costs => k_is)
    (case n_least_costs => k_is)
    (case l_least_costs => k_is)
    (case c_least_costs => k_is)
    (case k_least_costs => k_is)
    (case n_check_ending => k_is)
    (case l_check_ending => k_is)
    (case c_check_ending => k_is)
    (case k_check_ending => k_is)
    (case n_least_cost => k_is)
    (case l_least_cost => k_is)
    (case c_least_cost => k_is)
    (case k_least_cost => k_is)
    (case d_least_cost => k_is)
    (case n_cost_lines => k_is)
    (case l_cost_lines => k_is)
    (case c_cost_lines => k_is)
    (case k_cost_lines => k_is)
    (case n_greatest_forced => k_is)
    (case l_greatest_forced => k_is)
    (case c_greatest_forced => k_is)
    (case k_greatest_forced => k_is)
    (case d_greatest_forced => k_is)
    (case n_standard_continuation => k_is)
    (case l_standard_continuation => k_is)
    (case c_standard_continuation => k_is)
    (case k_standard_continuation => k_is)
    (case d_standard_continuation => k_is)
    (case n_law_cell => k_is)
    (case l_law_cell => k_is)
    (case c_law_cell => k_is)
    (case k_law_cell => k_is)
    (case n_law_number => k_is)
    (case l_law_number => k_is)
    (case c_law_number => k_is)
    (case k_law_number => k_is)
    (case n_law_period => k_is)
    (case l_law_period => k_is)
    (case c_law_period => k_is)
    (case k_law_period => k_is)
    (case n_law_periods => k_is)
    (case l_law_periods => k_is)
    (case c_law_periods => k_is)
    (case k_law_periods => k_is)
    (case n_law_shape => k_is)
    (case l_law_shape => k_is)
    (case c_law_shape => k_is)
    (case k_law_shape => k_is)
    (case n_law_cap => k_is)
    (case l_law_cap => k_is)
    (case c_law_cap => k_is)
    (case k_law_cap => k_is)
    (case n_law_costs => k_is)
    (case l_law_costs => k_is)
    (case c_law_costs => k_is)
    (case k_law_costs => k_is)
    (case n_law_high => k_is)
    (case l_law_high => k_is)
    (case c_law_high => k_is)
    (case k_law_high => k_is)
    (case n_law_least => k_is)
    (case l_law_least => k_is)
    (case c_law_least => k_is)
    (case k_law_least => k_is)
    (case n_law_same => k_is)
    (case l_law_same => k_is)
    (case c_law_same => k_is)
    (case k_law_same => k_is)
    (case n_law_lines => k_is)
    (case l_law_lines => k_is)
    (case c_law_lines => k_is)
    (case k_law_lines => k_is)
    (case n_law_forced => k_is)
    (case l_law_forced => k_is)
    (case c_law_forced => k_is)
    (case k_law_forced => k_is)
    (case n_law_quiet => k_is)
    (case l_law_quiet => k_is)
    (case c_law_quiet => k_is)
    (case k_law_quiet => k_is)
    (case n_law_edge => k_is)
    (case l_law_edge => k_is)
    (case c_law_edge => k_is)
    (case k_law_edge => k_is)
    (case n_law_final => k_is)
    (case l_law_final => k_is)
    (case c_law_final => k_is)
    (case k_law_final => k_is)
    (case n_law_due => k_is)
    (case l_law_due => k_is)
    (case c_law_due => k_is)
    (case k_law_due => k_is)
    (case n_law_told => k_is)
    (case l_law_told => k_is)
    (case c_law_told => k_is)
    (case k_law_told => k_is)
    (case n_law_right => k_is)
    (case l_law_right => k_is)
    (case c_law_right => k_is)
    (case k_law_right => k_is)
    (case n_law => k_is)
    (case l_law => k_is)
    (case c_law => k_is)
    (case k_law => k_is)


