import PyProof.Rows.All
import Wide.All
import OpenK.AllK
import Wide.FinOn
import HandS.ForExc
import HandS.Comp
import HandS.Iter
import HandS.Wide
import HandS.Defaults
import HandS.IsInst
import HandS.ExcIs
import HandS.RevRange
import HandS.Rev
import HandS.SortInts
import HandS.TryMany
import KE.KExcSuper
import HandS.Conv
import HandS.ExcInit
import KE.KExcIs
import PyProof.MaxThree
import HandS.EndBits
import KE.RegKSuper
import HandS.RevTup
import HandS.ListEq
import KE.DataMinMax
import HandS.More
import HandS.DictComp
import HandS.SetFor
import KE.KDictSum
import HandS.Strs
import KE.KUnpack
import HandS.Property
import HandS.Star
import HandS.MakeKwOnly
import HandS.OwnIter
import HandS.IterVal
import PySem.Challenge.RW_laterwants_k22_profile_keeps_a_copy
set_option Elab.async false
set_option linter.all false
set_option autoImplicit false
set_option maxRecDepth 100000
set_option maxHeartbeats 8000000
namespace Ct
open PySem PySem.Spec PyProof.Rows L2

abbrev D := PyData
structure Er where
  c : Nat
  fs : List D
inductive Rs (α : Type) where
  | ok (a : α)
  | exc (e : Er)
  | stuck
namespace Rs
def bind {α β : Type} (r : Rs α) (f : α → Rs β) : Rs β := match r with
  | .ok a => f a
  | .exc e => .exc e
  | .stuck => .stuck
@[simp] theorem bind_ok {α β : Type} (a : α) (f : α → Rs β) : (Rs.ok a).bind f = f a := id rfl
@[simp] theorem bind_exc {α β : Type} (e : Er) (f : α → Rs β) : (Rs.exc e : Rs α).bind f = .exc e := id rfl
@[simp] theorem bind_stuck {α β : Type} (f : α → Rs β) : (Rs.stuck : Rs α).bind f = .stuck := id rfl
end Rs
def Wp {α : Type} (r : Rs α) (P : α → Prop) (E : Er → Prop) : Prop := match r with
  | .ok a => P a
  | .exc e => E e
  | .stuck => False
theorem Wp.imp {α : Type} {r : Rs α} {P P' : α → Prop} {E E' : Er → Prop} (h : Wp r P E) (hp : ∀ a, P a → P' a) (he : ∀ e, E e → E' e) : Wp r P' E' := by
  cases r with
  | ok a => exact hp a h
  | exc e => exact he e h
  | stuck => exact h
theorem Wp.bind {α β : Type} {r : Rs α} {f : α → Rs β} {P : β → Prop} {E : Er → Prop} (h : Wp (r.bind f) P E) : Wp r (fun a => Wp (f a) P E) E := by
  cases r with
  | ok a => exact h
  | exc e => exact h
  | stuck => exact h

mutual
inductive Rp (G : Hp) : V → D → Prop
  | non : Rp G .non .none
  | bl (b : Bool) : Rp G (.bl b) (.bool b)
  | int (i : Int) : Rp G (.int i) (.int i)
  | lst {a : Addr} {xs : List V} {ds : List D} : G a = some (.lst xs) → RpL G xs ds → Rp G (.ref a) (.list ds)
  | tup {a : Addr} {xs : List V} {ds : List D} : G a = some (.tup xs) → RpL G xs ds → Rp G (.ref a) (.tuple ds)
  | dct {a : Addr} {o : Obj} {kvs : List (Key × V)} {es : List (D × D)} : G a = some (.frz o (.dK kvs)) → RpK G kvs es → Rp G (.ref a) (.dict es)
  | ins {a C dx : Addr} {fs : List (Str × V)} {es : List (D × D)} : G a = some (.ins C dx fs) → RpF G fs es → Rp G (.ref a) (.dict ((.none, .int (C : Nat)) :: es))
  /-- the script, which nobody writes -/
  | scr {a : Addr} {o : Obj} {xs : List V} {ds : List D} : G a = some (.frz o (.lst xs)) → RpL G xs ds → Rp G (.ref a) (.dict [(.bool true, .list ds)])
inductive RpL (G : Hp) : List V → List D → Prop
  | nil : RpL G [] []
  | cons {v : V} {vs : List V} {d : D} {ds : List D} : Rp G v d → RpL G vs ds → RpL G (v :: vs) (d :: ds)
inductive RpK (G : Hp) : List (Key × V) → List (D × D) → Prop
  | nil : RpK G [] []
  | cons {n : Int} {v : V} {kvs : List (Key × V)} {d : D} {es : List (D × D)} : Rp G v d → RpK G kvs es → RpK G ((.inl n, v) :: kvs) ((.int n, d) :: es)
inductive RpF (G : Hp) : List (Str × V) → List (D × D) → Prop
  | nil : RpF G [] []
  | cons {f : Str} {v : V} {fs : List (Str × V)} {d : D} {es : List (D × D)} : Rp G v d → RpF G fs es → RpF G ((f, v) :: fs) ((.str f, d) :: es)
end

mutual
theorem Rp.mono {G G' : Hp} (e : Same G G') : ∀ {v : V} {d : D}, Rp G v d → Rp G' v d
  | _, _, .non => .non
  | _, _, .bl b => .bl b
  | _, _, .int i => .int i
  | _, _, .lst h hl => .lst (e _ _ h) (RpL.mono e hl)
  | _, _, .scr h hl => .scr (e _ _ h) (RpL.mono e hl)
  | _, _, .tup h hl => .tup (e _ _ h) (RpL.mono e hl)
  | _, _, .dct h hl => .dct (e _ _ h) (RpK.mono e hl)
  | _, _, .ins h hl => .ins (e _ _ h) (RpF.mono e hl)
theorem RpL.mono {G G' : Hp} (e : Same G G') : ∀ {v : List V} {d : List D}, RpL G v d → RpL G' v d
  | _, _, .nil => .nil
  | _, _, .cons h hl => .cons (Rp.mono e h) (RpL.mono e hl)
theorem RpK.mono {G G' : Hp} (e : Same G G') : ∀ {v : List (Key × V)} {d : List (D × D)}, RpK G v d → RpK G' v d
  | _, _, .nil => .nil
  | _, _, .cons h hl => .cons (Rp.mono e h) (RpK.mono e hl)
theorem RpF.mono {G G' : Hp} (e : Same G G') : ∀ {v : List (Str × V)} {d : List (D × D)}, RpF G v d → RpF G' v d
  | _, _, .nil => .nil
  | _, _, .cons h hl => .cons (Rp.mono e h) (RpF.mono e hl)
end
section
variable {G : Hp} {v : V} {d : D} {vs ws : List V} {ds es : List D}
theorem Rp.non_inv (h : Rp G v .none) : v = .non := by cases h; rfl
theorem Rp.bl_inv {b : Bool} (h : Rp G v (.bool b)) : v = .bl b := by cases h; rfl
theorem Rp.int_inv {i : Int} (h : Rp G v (.int i)) : v = .int i := by cases h; rfl
theorem Rp.lst_inv (h : Rp G v (.list ds)) : ∃ a xs, v = .ref a ∧ G a = some (.lst xs) ∧ RpL G xs ds := by
  cases h with
  | lst h hl => exact ⟨_, _, rfl, h, hl⟩
theorem Rp.tup_inv (h : Rp G v (.tuple ds)) : ∃ a xs, v = .ref a ∧ G a = some (.tup xs) ∧ RpL G xs ds := by
  cases h with
  | tup h hl => exact ⟨_, _, rfl, h, hl⟩
theorem RpL.length : ∀ {vs : List V} {ds : List D}, RpL G vs ds → vs.length = ds.length
  | _, _, .nil => rfl
  | _, _, .cons _ h => by rw [List.length_cons, List.length_cons, RpL.length h]
theorem RpL.append : ∀ {vs ws : List V} {ds es : List D}, RpL G vs ds → RpL G ws es → RpL G (vs ++ ws) (ds ++ es)
  | _, _, _, _, .nil, h => h
  | _, _, _, _, .cons h hl, h2 => .cons h (RpL.append hl h2)
theorem RpL.get : ∀ {vs : List V} {ds : List D} {i : Nat} {d : D}, RpL G vs ds → ds[i]? = some d → ∃ v, vs[i]? = some v ∧ Rp G v d
  | _, _, _, _, .nil, h => by simp at h
  | _, _, 0, _, .cons h _, e => by
    have : _ = _ := Option.some.inj e
    subst this
    exact ⟨_, rfl, h⟩
  | _, _, i + 1, _, .cons _ hl, e => RpL.get (i := i) hl e
theorem RpL.set : ∀ {vs : List V} {ds : List D} {v : V} {d : D} (i : Nat), RpL G vs ds → Rp G v d → RpL G (vs.set i v) (ds.set i d)
  | _, _, _, _, _, .nil, _ => .nil
  | _, _, _, _, 0, .cons _ hl, h => .cons h hl
  | _, _, _, _, i + 1, .cons h0 hl, h => .cons h0 (RpL.set i hl h)
theorem RpL.take : ∀ {vs : List V} {ds : List D} (n : Nat), RpL G vs ds → RpL G (vs.take n) (ds.take n)
  | _, _, 0, _ => .nil
  | _, _, _ + 1, .nil => .nil
  | _, _, n + 1, .cons h hl => .cons h (RpL.take n hl)
theorem RpL.drop : ∀ {vs : List V} {ds : List D} (n : Nat), RpL G vs ds → RpL G (vs.drop n) (ds.drop n)
  | _, _, 0, h => h
  | _, _, _ + 1, .nil => .nil
  | _, _, n + 1, .cons _ hl => RpL.drop n hl
theorem RpL.reverse : ∀ {vs : List V} {ds : List D}, RpL G vs ds → RpL G vs.reverse ds.reverse
  | _, _, .nil => .nil
  | _, _, .cons h hl => by
    rw [List.reverse_cons, List.reverse_cons]
    exact (RpL.reverse hl).append (.cons h .nil)
theorem RpL.ints : ∀ {vs : List V} {ns : List Int}, RpL G vs (ns.map PyData.int) → vs = ns.map V.int
  | _, [], .nil => rfl
  | _, n :: ns, .cons h hl => by
    rw [List.map_cons, Rp.int_inv h, RpL.ints hl]
theorem RpL.rep (h : Rp G v d) : ∀ n : Nat, RpL G (List.replicate n v) (List.replicate n d)
  | 0 => .nil
  | n + 1 => .cons h (RpL.rep h n)
end

def scal1 : D → Bool
  | .none => true
  | .bool _ => true
  | .int _ => true
  | _ => false
theorem Rp.scal {G G' : Hp} {v : V} {d : D} (h : Rp G v d) (s : scal1 d = true) : Rp G' v d := by
  cases h with
  | non => exact .non
  | bl b => exact .bl b
  | int i => exact .int i
  | lst _ _ => cases s
  | tup _ _ => cases s
  | dct _ _ => cases s
  | ins _ _ => cases s
  | scr _ _ => cases s

structure Step (H G H' G' : Hp) : Prop where
  hh : Same H H'
  gg : Same G G'
  sub : Same G' H'
  sep : ∀ a, G a = none → H a ≠ none → G' a = none
theorem Step.refl {H G : Hp} (s : Same G H) : Step H G H G := ⟨Same.refl _, Same.refl _, s, fun _ h _ => h⟩
theorem Step.trans {H G H1 G1 H2 G2 : Hp} (a : Step H G H1 G1) (b : Step H1 G1 H2 G2) : Step H G H2 G2 where
  hh := a.hh.trans b.hh
  gg := a.gg.trans b.gg
  sub := b.sub
  sep := fun x g h => b.sep x (a.sep x g h) (fun z => by
    cases q : H x with
    | none => exact h q
    | some o => rw [a.hh x o q] at z; cases z)
theorem same_new {H : Hp} {p : Addr} {o : HO} (h : H p = none) : Same H (upd H p o) := fun a u e => by
  rw [upd_ne (ne_of_none e h)]
  exact e
theorem same_upd {G H : Hp} {p : Addr} {o : HO} (s : Same G H) : Same (upd G p o) (upd H p o) := fun a u e => by
  by_cases h : a = p
  · subst h
    rw [upd_same] at e ⊢
    exact e
  · rw [upd_ne h] at e ⊢
    exact s a u e
theorem Step.new {H G : Hp} {p : Addr} {o : HO} (s : Same G H) (h : H p = none) : Step H G (upd H p o) (upd G p o) where
  hh := same_new h
  gg := same_new (Same.free s h)
  sub := same_upd s
  sep := fun a g n => by
    by_cases e : a = p
    · subst e
      exact absurd h n
    · rw [upd_ne e]
      exact g
theorem Step.newO {H G : Hp} {p : Addr} {o : HO} (s : Same G H) (h : H p = none) : Step H G (upd H p o) G where
  hh := same_new h
  gg := Same.refl _
  sub := fun a u e => same_new h a u (s a u e)
  sep := fun a g n => g
theorem Step.frz {H G H' G' : Hp} {p : Addr} {o : HO} (t : Step H G H' G') (h : H p = none) (hg : G' p = none) : Step H G (upd H' p o) (upd G' p o) where
  hh := fun a u e => by
    have q : a ≠ p := fun z => by rw [z, h] at e; cases e
    rw [upd_ne q]
    exact t.hh a u e
  gg := t.gg.trans (same_new hg)
  sub := fun a u e => by
    by_cases q : a = p
    · subst q
      rw [upd_same] at e ⊢
      exact e
    · rw [upd_ne q] at e ⊢
      exact t.sub a u e
  sep := fun a g n => by
    have q : a ≠ p := fun z => n (by rw [z]; exact h)
    rw [upd_ne q]
    exact t.sep a g n
theorem Step.give {H G H' G' : Hp} {p : Addr} {o : HO} (t : Step H G H' G') (h : H p = none) (hp : H' p = some o) (hg : G' p = none) : Step H G H' (upd G' p o) where
  hh := t.hh
  gg := t.gg.trans (same_new hg)
  sub := fun a u e => by
    by_cases q : a = p
    · subst q
      rw [upd_same] at e
      exact hp.trans e
    · rw [upd_ne q] at e
      exact t.sub a u e
  sep := fun a g n => by
    by_cases e : a = p
    · subst e
      exact absurd h n
    · rw [upd_ne e]
      exact t.sep a g n
end Ct

namespace Ct
open PySem PySem.Spec PyProof.Rows L2

abbrev St := L2.St
inductive Sh where
  | g
  | x
  | r (s : Sh)
  | c (s k : Sh)
deriving DecidableEq
namespace Sh
def node : Sh → Bool
  | .r _ => true
  | .c _ k => k.node
  | _ => false
def full : Sh → Bool
  | .g => true
  | .x => false
  | .r s => s.full
  | .c s k => s.full && k.full
def at' : Sh → Nat → Sh
  | .r s, _ => s
  | .c s _, 0 => s
  | .c _ k, n + 1 => k.at' n
  | _, _ => .x
def put : Sh → Nat → Sh → Sh
  | .r s, 0, t => .c t (.r s)
  | .r s, n + 1, t => .c s ((Sh.r s).put n t)
  | .c _ k, 0, t => .c t k
  | .c s k, n + 1, t => .c s (k.put n t)
  | k, _, _ => k
theorem full_r {s : Sh} (e : (Sh.r s).full = true) : s.full = true := e
end Sh
def obE (C : Addr) : List Str → List D → List (D × D)
  | n :: ns, d :: ds => (.str n, d) :: obE C ns ds
  | _, _ => []
def objD (C : Addr) (ns : List Str) (ds : List D) : D := .dict ((.none, .int (C : Nat)) :: obE C ns ds)
mutual
inductive RT (H G : Hp) : Sh → V → D → List Addr → Prop
  | good {v : V} {d : D} : Rp G v d → RT H G .g v d []
  | hole {v : V} {d : D} : RT H G .x v d []
  | sc {k : Sh} {v : V} {d : D} : scal1 d = true → Rp G v d → RT H G k v d []
  | lst {k : Sh} {p : Addr} {vs : List V} {ds : List D} {fp : List Addr} : k.node = true → H p = some (.lst vs) → G p = none → RTL H G k vs ds fp → RT H G k (.ref p) (.list ds) (p :: fp)
  | tup {k : Sh} {p : Addr} {vs : List V} {ds : List D} {fp : List Addr} : k.node = true → H p = some (.tup vs) → G p = none → RTL H G k vs ds fp → RT H G k (.ref p) (.tuple ds) (p :: fp)
  | ins {k : Sh} {p C dx : Addr} {fs : List (Str × V)} {ds : List D} {d : D} {fp : List Addr} : k.node = true → d = objD C (fs.map (·.1)) ds → H p = some (.ins C dx fs) → G p = none → RTL H G k (fs.map (·.2)) ds fp → RT H G k (.ref p) d (p :: fp)
inductive RTL (H G : Hp) : Sh → List V → List D → List Addr → Prop
  | nil {k : Sh} : RTL H G k [] [] []
  | rep {s : Sh} {v : V} {vs : List V} {d : D} {ds : List D} {f1 f2 : List Addr} : RT H G s v d f1 → RTL H G (.r s) vs ds f2 → RTL H G (.r s) (v :: vs) (d :: ds) (f1 ++ f2)
  | con {s k : Sh} {v : V} {vs : List V} {d : D} {ds : List D} {f1 f2 : List Addr} : RT H G s v d f1 → RTL H G k vs ds f2 → RTL H G (.c s k) (v :: vs) (d :: ds) (f1 ++ f2)
end
theorem RTL.length {H G : Hp} : ∀ {k : Sh} {v : List V} {d : List D} {f : List Addr}, RTL H G k v d f → v.length = d.length
  | _, _, _, _, .nil => rfl
  | _, _, _, _, .rep _ b => by rw [List.length_cons, List.length_cons, RTL.length b]
  | _, _, _, _, .con _ b => by rw [List.length_cons, List.length_cons, RTL.length b]
theorem obE_inj {C C' : Addr} : ∀ {ns : List Str} {ds es : List D}, ns.length = ds.length → ns.length = es.length → obE C ns ds = obE C' ns es → ds = es
  | [], [], [], _, _, _ => rfl
  | n :: ns, d :: ds, e :: es, h1, h2, h => by
    have h : (PyData.str n, d) :: obE C ns ds = (PyData.str n, e) :: obE C' ns es := h
    cases List.cons.inj h with
    | intro a b =>
      cases a
      rw [obE_inj (by simpa using h1) (by simpa using h2) b]
  | [], _ :: _, _, h, _, _ => by simp at h
  | [], [], _ :: _, _, h, _ => by simp at h
  | _ :: _, [], _, h, _, _ => by simp at h
  | _ :: _, _ :: _, [], _, h, _ => by simp at h
theorem objD_inj {C C' : Addr} {ns : List Str} {ds es : List D} (h1 : ns.length = ds.length) (h2 : ns.length = es.length) (h : objD C ns ds = objD C' ns es) : ds = es := by
  have h := PyData.dict.inj h
  exact obE_inj h1 h2 (List.cons.inj h).2
mutual
theorem RT.uniq {H G : Hp} : ∀ {k : Sh} {v : V} {d : D} {f g : List Addr}, RT H G k v d f → RT H G k v d g → f = g
  | _, _, _, _, _, .good _, .good _ => rfl
  | _, _, _, _, _, .good _, .sc _ _ => rfl
  | _, _, _, _, _, .sc _ _, .good _ => rfl
  | _, _, _, _, _, .sc _ _, .sc _ _ => rfl
  | _, _, _, _, _, .sc _ _, .hole => rfl
  | _, _, _, _, _, .hole, .sc _ _ => rfl
  | _, _, _, _, _, .hole, .hole => rfl
  | _, _, _, _, _, .sc h _, .lst _ _ _ _ => nomatch h
  | _, _, _, _, _, .sc h _, .tup _ _ _ _ => nomatch h
  | _, _, _, _, _, .lst _ _ _ _, .sc h _ => nomatch h
  | _, _, _, _, _, .tup _ _ _ _, .sc h _ => nomatch h
  | _, _, _, _, _, .lst _ h1 _ r1, .lst _ h2 _ r2 => by
    rw [h1] at h2
    cases h2
    rw [RTL.uniq r1 r2]
  | _, _, _, _, _, .tup _ h1 _ r1, .tup _ h2 _ r2 => by
    rw [h1] at h2
    cases h2
    rw [RTL.uniq r1 r2]
  | _, _, _, _, _, .sc s _, .ins _ e _ _ _ => by rw [e] at s; cases s
  | _, _, _, _, _, .ins _ e _ _ _, .sc s _ => by rw [e] at s; cases s
  | _, _, _, _, _, .lst _ _ _ _, .ins _ e _ _ _ => nomatch e
  | _, _, _, _, _, .tup _ _ _ _, .ins _ e _ _ _ => nomatch e
  | _, _, _, _, _, .ins _ e _ _ _, .lst _ _ _ _ => nomatch e
  | _, _, _, _, _, .ins _ e _ _ _, .tup _ _ _ _ => nomatch e
  | _, _, _, _, _, .ins _ e1 h1 _ r1, .ins _ e2 h2 _ r2 => by
    rw [h1] at h2
    cases h2
    have := RTL.length r1
    have := RTL.length r2
    rw [e1] at e2
    cases objD_inj (by rw [← RTL.length r1, List.length_map, List.length_map]) (by rw [← RTL.length r2, List.length_map, List.length_map]) e2
    rw [RTL.uniq r1 r2]
theorem RTL.uniq {H G : Hp} : ∀ {k : Sh} {v : List V} {d : List D} {f g : List Addr}, RTL H G k v d f → RTL H G k v d g → f = g
  | _, _, _, _, _, .nil, .nil => rfl
  | _, _, _, _, _, .rep a b, .rep c e => by rw [RT.uniq a c, RTL.uniq b e]
  | _, _, _, _, _, .con a b, .con c e => by rw [RT.uniq a c, RTL.uniq b e]
end
mutual
theorem RT.mono {H G H' G' : Hp} (gg : Same G G') : ∀ {k : Sh} {v : V} {d : D} {f : List Addr}, RT H G k v d f → (∀ p ∈ f, G' p = none ∧ H' p = H p) → RT H' G' k v d f
  | _, _, _, _, .good h, _ => .good (h.mono gg)
  | _, _, _, _, .hole, _ => .hole
  | _, _, _, _, .sc e h, _ => .sc e (h.mono gg)
  | _, _, _, _, .lst n h g r, k => .lst n ((k _ List.mem_cons_self).2.trans h) (k _ List.mem_cons_self).1 (RTL.mono gg r fun p hp => k p (List.mem_cons_of_mem _ hp))
  | _, _, _, _, .tup n h g r, k => .tup n ((k _ List.mem_cons_self).2.trans h) (k _ List.mem_cons_self).1 (RTL.mono gg r fun p hp => k p (List.mem_cons_of_mem _ hp))
  | _, _, _, _, .ins n e h g r, k => .ins n e ((k _ List.mem_cons_self).2.trans h) (k _ List.mem_cons_self).1 (RTL.mono gg r fun p hp => k p (List.mem_cons_of_mem _ hp))
theorem RTL.mono {H G H' G' : Hp} (gg : Same G G') : ∀ {k : Sh} {v : List V} {d : List D} {f : List Addr}, RTL H G k v d f → (∀ p ∈ f, G' p = none ∧ H' p = H p) → RTL H' G' k v d f
  | _, _, _, _, .nil, _ => .nil
  | _, _, _, _, .rep a b, k => .rep (RT.mono gg a fun p hp => k p (List.mem_append.mpr (.inl hp))) (RTL.mono gg b fun p hp => k p (List.mem_append.mpr (.inr hp)))
  | _, _, _, _, .con a b, k => .con (RT.mono gg a fun p hp => k p (List.mem_append.mpr (.inl hp))) (RTL.mono gg b fun p hp => k p (List.mem_append.mpr (.inr hp)))
end
mutual
theorem RT.own {H G : Hp} : ∀ {k : Sh} {v : V} {d : D} {f : List Addr}, RT H G k v d f → ∀ p ∈ f, H p ≠ none ∧ G p = none
  | _, _, _, _, .good _, _, hp => nomatch hp
  | _, _, _, _, .hole, _, hp => nomatch hp
  | _, _, _, _, .sc _ _, _, hp => nomatch hp
  | _, _, _, _, .lst _ h g r, q, hq => by
    rcases List.mem_cons.mp hq with rfl | hq
    · exact ⟨by rw [h]; exact Option.some_ne_none _, g⟩
    · exact RTL.own r q hq
  | _, _, _, _, .tup _ h g r, q, hq => by
    rcases List.mem_cons.mp hq with rfl | hq
    · exact ⟨by rw [h]; exact Option.some_ne_none _, g⟩
    · exact RTL.own r q hq
  | _, _, _, _, .ins _ _ h g r, q, hq => by
    rcases List.mem_cons.mp hq with rfl | hq
    · exact ⟨by rw [h]; exact Option.some_ne_none _, g⟩
    · exact RTL.own r q hq
theorem RTL.own {H G : Hp} : ∀ {k : Sh} {v : List V} {d : List D} {f : List Addr}, RTL H G k v d f → ∀ p ∈ f, H p ≠ none ∧ G p = none
  | _, _, _, _, .nil, _, hp => nomatch hp
  | _, _, _, _, .rep a b, q, hq => by
    rcases List.mem_append.mp hq with hq | hq
    · exact RT.own a q hq
    · exact RTL.own b q hq
  | _, _, _, _, .con a b, q, hq => by
    rcases List.mem_append.mp hq with hq | hq
    · exact RT.own a q hq
    · exact RTL.own b q hq
end
theorem RpF.ob {G : Hp} (C : Addr) : ∀ {fs : List (Str × V)} {ds : List D}, RpL G (fs.map (·.2)) ds → RpF G fs (obE C (fs.map (·.1)) ds)
  | [], _, .nil => .nil
  | (_, _) :: _, _, .cons a b => .cons a (RpF.ob C b)
mutual
theorem RT.rp {H G : Hp} (sub : Same G H) : ∀ {k : Sh} {v : V} {d : D} {f : List Addr}, k.full = true → RT H G k v d f → Rp H v d
  | _, _, _, _, _, .good h => h.mono sub
  | _, _, _, _, e, .hole => nomatch e
  | _, _, _, _, _, .sc _ h => h.mono sub
  | _, _, _, _, e, .lst _ h _ r => .lst h (RTL.rp sub e r)
  | _, _, _, _, e, .tup _ h _ r => .tup h (RTL.rp sub e r)
  | _, _, _, _, e, .ins _ z h _ r => by rw [z]; exact .ins h (RpF.ob _ (RTL.rp sub e r))
theorem RTL.rp {H G : Hp} (sub : Same G H) : ∀ {k : Sh} {v : List V} {d : List D} {f : List Addr}, k.full = true → RTL H G k v d f → RpL H v d
  | _, _, _, _, _, .nil => .nil
  | .r s, _, _, _, e, .rep a b => .cons (RT.rp sub (Sh.full_r e) a) (RTL.rp sub e b)
  | _, _, _, _, e, .con a b => .cons (RT.rp sub (Bool.and_eq_true_iff.mp e).1 a) (RTL.rp sub (Bool.and_eq_true_iff.mp e).2 b)
end
theorem RT.step {H G H' G' : Hp} {k : Sh} {v : V} {d : D} {f : List Addr} (r : RT H G k v d f) (t : Step H G H' G') : RT H' G' k v d f := r.mono t.gg fun p hp => by
  obtain ⟨a, b⟩ := r.own p hp
  refine ⟨t.sep p b a, ?_⟩
  cases e : H p with
  | none => exact absurd e a
  | some o => exact t.hh p o e
theorem RTL.step {H G H' G' : Hp} {k : Sh} {v : List V} {d : List D} {f : List Addr} (r : RTL H G k v d f) (t : Step H G H' G') : RTL H' G' k v d f := r.mono t.gg fun p hp => by
  obtain ⟨a, b⟩ := r.own p hp
  refine ⟨t.sep p b a, ?_⟩
  cases e : H p with
  | none => exact absurd e a
  | some o => exact t.hh p o e
theorem RTL.good {H G : Hp} : ∀ {v : List V} {d : List D}, RpL G v d → RTL H G (.r .g) v d []
  | _, _, .nil => .nil
  | _, _, .cons a b => .rep (f1 := []) (.good a) (RTL.good b)
theorem RTL.of_good {H G : Hp} : ∀ {v : List V} {d : List D} {f : List Addr}, RTL H G (.r .g) v d f → RpL G v d ∧ f = []
  | _, _, _, .nil => ⟨.nil, rfl⟩
  | _, _, _, .rep (.good a) b => by
    obtain ⟨x, rfl⟩ := RTL.of_good b
    exact ⟨.cons a x, rfl⟩
  | _, _, _, .rep (.sc _ a) b => by
    obtain ⟨x, rfl⟩ := RTL.of_good b
    exact ⟨.cons a x, rfl⟩
theorem RTL.snoc {H G : Hp} {v : V} {d : D} {f : List Addr} : ∀ {k : Sh} {vs : List V} {ds : List D} {fs : List Addr}, k.node = true → RTL H G k vs ds fs → RT H G (k.at' ds.length) v d f → ∃ f', RTL H G k (vs ++ [v]) (ds ++ [d]) f' ∧ f' = fs ++ f
  | .r s, [], [], _, _, .nil, h => ⟨f ++ [], .rep h .nil, by rw [List.append_nil, List.nil_append]⟩
  | .c s k, [], [], _, _, .nil, h => ⟨f ++ [], .con h .nil, by rw [List.append_nil, List.nil_append]⟩
  | .r s, _, _, _, n, .rep a b, h => by
    obtain ⟨f', h', rfl⟩ := RTL.snoc n b h
    exact ⟨_, .rep a h', by rw [List.append_assoc]⟩
  | .c s k, _, _, _, n, .con a b, h => by
    obtain ⟨f', h', rfl⟩ := RTL.snoc (k := k) n b h
    exact ⟨_, .con a h', by rw [List.append_assoc]⟩
  | .g, [], [], _, n, .nil, _ => nomatch n
  | .x, [], [], _, n, .nil, _ => nomatch n
theorem RTL.split {H G : Hp} : ∀ {k : Sh} {vs : List V} {ds : List D} {fp : List Addr} {n : Nat} {d : D}, RTL H G k vs ds fp → ds[n]? = some d → ∃ v f0 f1 f2, vs[n]? = some v ∧ fp = f0 ++ (f1 ++ f2) ∧ RT H G (k.at' n) v d f1 ∧
    ∀ H' G' s v' d' f', Same G G' → (∀ p ∈ f0 ++ f2, G' p = none ∧ H' p = H p) → RT H' G' s v' d' f' → RTL H' G' (k.put n s) (vs.set n v') (ds.set n d') (f0 ++ (f' ++ f2))
  | _, _, _, _, n, d, .nil, e => by simp at e
  | .r s, v :: vs, d0 :: ds, _, 0, d, .rep (f1 := f1) (f2 := f2) a b, e => by
    have : d0 = d := Option.some.inj e
    subst this
    exact ⟨v, [], f1, f2, rfl, rfl, a, fun H' G' s' v' d' f' gg k h => by
      show RTL H' G' _ _ _ (f' ++ f2)
      exact .con h (b.mono gg fun p hp => k p (by simpa using hp))⟩
  | .c s k, v :: vs, d0 :: ds, _, 0, d, .con (f1 := f1) (f2 := f2) a b, e => by
    have : d0 = d := Option.some.inj e
    subst this
    exact ⟨v, [], f1, f2, rfl, rfl, a, fun H' G' s' v' d' f' gg k h => by
      show RTL H' G' _ _ _ (f' ++ f2)
      exact .con h (b.mono gg fun p hp => k p (by simpa using hp))⟩
  | .r s, v :: vs, d0 :: ds, _, n + 1, d, .rep (f1 := g1) (f2 := g2) a b, e => by
    obtain ⟨w, f0, f1, f2, e1, e2, e3, e4⟩ := RTL.split (n := n) b e
    subst e2
    refine ⟨w, g1 ++ f0, f1, f2, e1, by rw [List.append_assoc], e3, fun H' G' s' v' d' f' gg k h => ?_⟩
    have := e4 H' G' s' v' d' f' gg (fun p hp => k p (by simp only [List.mem_append] at hp ⊢; rcases hp with z | z; exact .inl (.inr z); exact .inr z)) h
    rw [List.append_assoc]
    exact .con (a.mono gg fun p hp => k p (by simp only [List.mem_append]; exact .inl (.inl hp))) this
  | .c s k, v :: vs, d0 :: ds, _, n + 1, d, .con (f1 := g1) (f2 := g2) a b, e => by
    obtain ⟨w, f0, f1, f2, e1, e2, e3, e4⟩ := RTL.split (n := n) b e
    subst e2
    refine ⟨w, g1 ++ f0, f1, f2, e1, by rw [List.append_assoc], e3, fun H' G' s' v' d' f' gg k h => ?_⟩
    have := e4 H' G' s' v' d' f' gg (fun p hp => k p (by simp only [List.mem_append] at hp ⊢; rcases hp with z | z; exact .inl (.inr z); exact .inr z)) h
    rw [List.append_assoc]
    exact .con (a.mono gg fun p hp => k p (by simp only [List.mem_append]; exact .inl (.inl hp))) this
theorem Sh.put_node : ∀ {k : Sh} {n : Nat} {s : Sh}, k.node = true → (k.put n s).node = true
  | .r _, 0, _, _ => rfl
  | .r s, n + 1, _, _ => Sh.put_node (k := .r s) (n := n) rfl
  | .c _ _, 0, _, h => h
  | .c _ k, n + 1, _, h => Sh.put_node (k := k) (n := n) h
  | .g, _, _, h => nomatch h
  | .x, _, _, h => nomatch h
mutual
theorem RT.give {H0 G0 H : Hp} : ∀ {G : Hp} {k : Sh} {v : V} {d : D} {f : List Addr}, Step H0 G0 H G → k.full = true → RT H G k v d f → f.Nodup → (∀ p ∈ f, H0 p = none) → ∃ G', Step H0 G0 H G' ∧ Same G G' ∧ Rp G' v d ∧ ∀ p, p ∉ f → G' p = G p
  | G, _, _, _, _, t, _, .good h, _, _ => ⟨G, t, Same.refl _, h, fun _ _ => rfl⟩
  | _, _, _, _, _, _, e, .hole, _, _ => nomatch e
  | G, _, _, _, _, t, _, .sc _ h, _, _ => ⟨G, t, Same.refl _, h, fun _ _ => rfl⟩
  | G, k, _, _, _, t, e, .lst (p := p) (fp := fp) n h g r, nd, hp => by
    obtain ⟨n1, n2⟩ := List.nodup_cons.mp nd
    obtain ⟨G', t', gg, rp, out⟩ := RTL.give t e r n2 (fun q hq => hp q (List.mem_cons_of_mem _ hq))
    have g' : G' p = none := by rw [out p n1]; exact g
    refine ⟨upd G' p (.lst _), t'.give (hp p List.mem_cons_self) h g', gg.trans (same_new g'), .lst upd_same (rp.mono (same_new g')), fun q hq => ?_⟩
    rw [List.mem_cons, not_or] at hq
    rw [upd_ne hq.1]
    exact out q hq.2
  | G, k, _, _, _, t, e, .tup (p := p) (fp := fp) n h g r, nd, hp => by
    obtain ⟨n1, n2⟩ := List.nodup_cons.mp nd
    obtain ⟨G', t', gg, rp, out⟩ := RTL.give t e r n2 (fun q hq => hp q (List.mem_cons_of_mem _ hq))
    have g' : G' p = none := by rw [out p n1]; exact g
    refine ⟨upd G' p (.tup _), t'.give (hp p List.mem_cons_self) h g', gg.trans (same_new g'), .tup upd_same (rp.mono (same_new g')), fun q hq => ?_⟩
    rw [List.mem_cons, not_or] at hq
    rw [upd_ne hq.1]
    exact out q hq.2
  | G, k, _, _, _, t, e, .ins (p := p) (fp := fp) n z h g r, nd, hp => by
    obtain ⟨n1, n2⟩ := List.nodup_cons.mp nd
    obtain ⟨G', t', gg, rp, out⟩ := RTL.give t e r n2 (fun q hq => hp q (List.mem_cons_of_mem _ hq))
    have g' : G' p = none := by rw [out p n1]; exact g
    refine ⟨upd G' p (.ins _ _ _), t'.give (hp p List.mem_cons_self) h g', gg.trans (same_new g'), by rw [z]; exact .ins upd_same (RpF.ob _ (rp.mono (same_new g'))), fun q hq => ?_⟩
    rw [List.mem_cons, not_or] at hq
    rw [upd_ne hq.1]
    exact out q hq.2
theorem RTL.give {H0 G0 H : Hp} : ∀ {G : Hp} {k : Sh} {v : List V} {d : List D} {f : List Addr}, Step H0 G0 H G → k.full = true → RTL H G k v d f → f.Nodup → (∀ p ∈ f, H0 p = none) → ∃ G', Step H0 G0 H G' ∧ Same G G' ∧ RpL G' v d ∧ ∀ p, p ∉ f → G' p = G p
  | G, _, _, _, _, t, _, .nil, _, _ => ⟨G, t, Same.refl _, .nil, fun _ _ => rfl⟩
  | G, _, _, _, _, t, e, .rep (f1 := f1) (f2 := f2) a b, nd, hp => by
    obtain ⟨n1, n2, n3⟩ := List.nodup_append.mp nd
    obtain ⟨G1, t1, gg1, r1, o1⟩ := RT.give t (Sh.full_r e) a n1 fun q hq => hp q (List.mem_append_left _ hq)
    have b1 : RTL H G1 _ _ _ _ := b.mono gg1 fun q hq => ⟨by rw [o1 q (fun z => n3 q z q hq rfl)]; exact (b.own q hq).2, rfl⟩
    obtain ⟨G2, t2, gg2, r2, o2⟩ := RTL.give t1 e b1 n2 fun q hq => hp q (List.mem_append_right _ hq)
    exact ⟨G2, t2, gg1.trans gg2, .cons (r1.mono gg2) r2, fun q hq => by
      rw [List.mem_append, not_or] at hq
      rw [o2 q hq.2, o1 q hq.1]⟩
  | G, _, _, _, _, t, e, .con (f1 := f1) (f2 := f2) a b, nd, hp => by
    have e := Bool.and_eq_true_iff.mp e
    obtain ⟨n1, n2, n3⟩ := List.nodup_append.mp nd
    obtain ⟨G1, t1, gg1, r1, o1⟩ := RT.give t e.1 a n1 fun q hq => hp q (List.mem_append_left _ hq)
    have b1 : RTL H G1 _ _ _ _ := b.mono gg1 fun q hq => ⟨by rw [o1 q (fun z => n3 q z q hq rfl)]; exact (b.own q hq).2, rfl⟩
    obtain ⟨G2, t2, gg2, r2, o2⟩ := RTL.give t1 e.2 b1 n2 fun q hq => hp q (List.mem_append_right _ hq)
    exact ⟨G2, t2, gg1.trans gg2, .cons (r1.mono gg2) r2, fun q hq => by
      rw [List.mem_append, not_or] at hq
      rw [o2 q hq.2, o1 q hq.1]⟩
end
inductive Sl where
  | un
  | va (d : D)
  | ow (ds : List D)
  | od (es : List (D × D))
  | ex (e : Er)
  | ot (k : Sh) (d : D)
  /-- somebody else's tree, read alone -/
  | br (k : Sh) (d : D)
abbrev Rho := List Sl
def isOwn : Sl → Bool
  | .ow _ => true
  | .od _ => true
  | .ot _ _ => true
  | _ => false

structure Sx where
  X : Cx
  W : WX
  ca : Nat → Addr
  cf : Nat → List Str
  xa : Option (Addr × Value × Option Addr)
  /-- what stands in the slots of parameters that are handed back changed -/
  io : Nat → Option V
abbrev io0 : Nat → Option V := fun _ => none
def ErR (ca : Nat → Addr) (cf : Nat → List Str) (G : Hp) (e : Er) (cls : Value) (dd : Option Addr) : Prop :=
  cls = .ref (ca e.c) ∧ ((e.fs = [] ∧ dd = none) ∨ ∃ d vs, dd = some d ∧ (cf e.c).length = vs.length ∧ G d = some (.xd ((cf e.c).zip vs)) ∧ RpL G vs e.fs)
theorem ErR.mono {ca : Nat → Addr} {cf : Nat → List Str} {G G' : Hp} {e : Er} {cls : Value} {dd : Option Addr} (s : Same G G') (h : ErR ca cf G e cls dd) : ErR ca cf G' e cls dd := by
  obtain ⟨h1, h2 | ⟨d, vs, e1, e2, e3, e4⟩⟩ := h
  · exact ⟨h1, .inl h2⟩
  · exact ⟨h1, .inr ⟨d, vs, e1, e2, s _ _ e3, e4.mono s⟩⟩
def SlR (S : Sx) (H0 H G : Hp) (ov : Option V) : Sl → Prop
  | .un => True
  | .va d => ∃ v, ov = some v ∧ Rp G v d
  | .ow ds => ∃ p vs, ov = some (.ref p) ∧ H p = some (.lst vs) ∧ G p = none ∧ H0 p = none ∧ RpL G vs ds
  | .od es => ∃ p kvs, ov = some (.ref p) ∧ H p = some (.dK kvs) ∧ G p = none ∧ H0 p = none ∧ RpK G kvs es
  | .ex e => ∃ a cls dd, S.xa = some (a, cls, dd) ∧ ov = some (.ref a) ∧ ErR S.ca S.cf G e cls dd
  | .ot k d => ∃ v fp, ov = some v ∧ RT H G k v d fp ∧ fp.Nodup ∧ ∀ p ∈ fp, H0 p = none
  | .br k d => ∃ v fp, ov = some v ∧ RT H G k v d fp ∧ ∀ p ∈ fp, H0 p ≠ none
def FP (H G : Hp) (o : Option (Option V)) (p : Addr) : Sl → Prop
  | .ow _ => o = some (some (.ref p))
  | .od _ => o = some (some (.ref p))
  | .ot k d => ∃ v fp, o = some (some v) ∧ RT H G k v d fp ∧ p ∈ fp
  | _ => False
structure Ok (S : Sx) (H0 G0 : Hp) (σ : St) (H G : Hp) (ρ : Rho) : Prop where
  st : Step H0 G0 H G
  len : σ.length = ρ.length
  sl : ∀ (i : Nat) (s : Sl), ρ[i]? = some s → ∃ ov, σ[i]? = some ov ∧ SlR S H0 H G ov s
  sep : ∀ (i j : Nat) (a b : Sl) (p : Addr), i ≠ j → ρ[i]? = some a → ρ[j]? = some b → FP H G σ[i]? p a → FP H G σ[j]? p b → False
  pin : ∀ (i : Nat) (v : V) (s : Sl), S.io i = some v → ρ[i]? = some s → isOwn s = true → σ[i]? = some (some v)

section
variable {S : Sx} {H0 G0 H G H' G' : Hp} {σ : St} {ρ : Rho}
theorem FP.own {o : Option (Option V)} {p : Addr} {s : Sl} (h : FP H G o p s) : isOwn s = true := by
  cases s with
  | ow _ => rfl
  | od _ => rfl
  | ot _ _ => rfl
  | _ => exact h.elim
theorem FP.inn {ov : Option V} {p : Addr} {s : Sl} (r : SlR S H0 H G ov s) (h : FP H G (some ov) p s) : H p ≠ none ∧ G p = none ∧ H0 p = none := by
  cases s with
  | ow ds =>
    obtain ⟨q, vs, a, b, c, d, _⟩ := r
    have h : some ov = some (some (V.ref p)) := h
    rw [a] at h
    cases h
    exact ⟨by rw [b]; exact Option.some_ne_none _, c, d⟩
  | od ds =>
    obtain ⟨q, vs, a, b, c, d, _⟩ := r
    have h : some ov = some (some (V.ref p)) := h
    rw [a] at h
    cases h
    exact ⟨by rw [b]; exact Option.some_ne_none _, c, d⟩
  | ot k d =>
    obtain ⟨v, fp, a, b, c, e⟩ := r
    obtain ⟨v', fp', a', b', c'⟩ := h
    rw [a] at a'
    cases a'
    rw [← b.uniq b'] at c'
    exact ⟨(b.own p c').1, (b.own p c').2, e p c'⟩
  | _ => exact h.elim
theorem FP.back {ov : Option V} {p : Addr} {s : Sl} (r : SlR S H0 H G ov s) (t : ∀ v k d f, ov = some v → RT H G k v d f → s = .ot k d → RT H' G' k v d f) (h : FP H' G' (some ov) p s) : FP H G (some ov) p s := by
  cases s with
  | ow ds => exact h
  | od ds => exact h
  | ot k d =>
    obtain ⟨v, fp, a, b, c, e⟩ := r
    obtain ⟨v', fp', a', b', c'⟩ := h
    rw [a] at a'
    cases a'
    rw [← (t _ _ _ _ a b rfl).uniq b'] at c'
    exact ⟨v, fp, by rw [a], b, c'⟩
  | _ => exact h.elim
theorem Ok.fpIn (k : Ok S H0 G0 σ H G ρ) {j : Nat} {b : Sl} {p : Addr} (e : ρ[j]? = some b) (h : FP H G σ[j]? p b) : H p ≠ none ∧ G p = none ∧ H0 p = none := by
  obtain ⟨ov, e1, e2⟩ := k.sl j b e
  rw [e1] at h
  exact h.inn e2
theorem Ok.step (k : Ok S H0 G0 σ H G ρ) (t : Step H G H' G') : Ok S H0 G0 σ H' G' ρ where
  st := k.st.trans t
  len := k.len
  pin := k.pin
  sep := fun i j a b p ne ea eb ha hb => by
    obtain ⟨ov, e1, e2⟩ := k.sl i a ea
    obtain ⟨ow, f1, f2⟩ := k.sl j b eb
    rw [e1] at ha
    rw [f1] at hb
    exact k.sep i j a b p ne ea eb (by rw [e1]; exact ha.back e2 fun _ _ _ _ _ r _ => r.step t) (by rw [f1]; exact hb.back f2 fun _ _ _ _ _ r _ => r.step t)
  sl := fun i s e => by
    obtain ⟨ov, e1, e2⟩ := k.sl i s e
    refine ⟨ov, e1, ?_⟩
    cases s with
    | un => exact trivial
    | va d =>
      obtain ⟨v, a, b⟩ := e2
      exact ⟨v, a, b.mono t.gg⟩
    | ow ds =>
      obtain ⟨p, vs, a, b, c, d, f⟩ := e2
      exact ⟨p, vs, a, t.hh _ _ b, t.sep p c (fun z => by rw [b] at z; cases z), d, f.mono t.gg⟩
    | od ds =>
      obtain ⟨p, vs, a, b, c, d, f⟩ := e2
      exact ⟨p, vs, a, t.hh _ _ b, t.sep p c (fun z => by rw [b] at z; cases z), d, f.mono t.gg⟩
    | ex er =>
      obtain ⟨a, cls, dd, e1, e2, e3⟩ := e2
      exact ⟨a, cls, dd, e1, e2, e3.mono t.gg⟩
    | ot k d =>
      obtain ⟨v, fp, a, b, c, e⟩ := e2
      exact ⟨v, fp, a, b.step t, c, e⟩
    | br k d =>
      obtain ⟨v, fp, a, b, c⟩ := e2
      exact ⟨v, fp, a, b.step t, c⟩
theorem set_get {α : Type} {l : List α} {i j : Nat} {x y : α} (h : (l.set i x)[j]? = some y) : (i = j ∧ x = y) ∨ (i ≠ j ∧ l[j]? = some y) := by
  by_cases e : i = j
  · subst e
    rw [List.getElem?_set] at h
    simp only [if_pos] at h
    split at h
    · exact .inl ⟨rfl, Option.some.inj h⟩
    · cases h
  · rw [List.getElem?_set_ne e] at h
    exact .inr ⟨e, h⟩
theorem Ok.setA (k : Ok S H0 G0 σ H G ρ) {i : Nat} {ov : Option V} {s : Sl} (h : SlR S H0 H G ov s) (hn : ∀ (j : Nat) (b : Sl) (p : Addr), j ≠ i → ρ[j]? = some b → FP H G (some ov) p s → FP H G σ[j]? p b → False) (hio : isOwn s = true → S.io i = none) : Ok S H0 G0 (σ.set i ov) H G (ρ.set i s) where
  st := k.st
  pin := fun j v t e1 e2 e3 => by
    rcases set_get e2 with ⟨rfl, rfl⟩ | ⟨ne, e2⟩
    · rw [hio e3] at e1
      cases e1
    · rw [List.getElem?_set_ne ne]
      exact k.pin j v t e1 e2 e3
  len := by rw [List.length_set, List.length_set]; exact k.len
  sl := fun j s' e => by
    rcases set_get e with ⟨rfl, rfl⟩ | ⟨ne, e⟩
    · have : i < ρ.length := by
        rcases Nat.lt_or_ge i ρ.length with z | z
        · exact z
        · rw [List.getElem?_eq_none (by rw [List.length_set]; exact z)] at e; cases e
      refine ⟨ov, ?_, h⟩
      rw [List.getElem?_set_self (by rw [k.len]; exact this)]
    · obtain ⟨ov', e1, e2⟩ := k.sl j s' e
      exact ⟨ov', by rw [List.getElem?_set_ne ne]; exact e1, e2⟩
  sep := fun a b x y p ne ea eb ha hb => by
    have at_i : ∀ {z : Sl}, (ρ.set i s)[i]? = some z → (σ.set i ov)[i]? = some ov := fun {z} e => by
      have : i < ρ.length := by
        rcases Nat.lt_or_ge i ρ.length with z | z
        · exact z
        · rw [List.getElem?_eq_none (by rw [List.length_set]; exact z)] at e; cases e
      rw [List.getElem?_set_self (by rw [k.len]; exact this)]
    rcases set_get ea with ⟨rfl, rfl⟩ | ⟨n1, ea'⟩
    · rcases set_get eb with ⟨rfl, rfl⟩ | ⟨n2, eb'⟩
      · exact ne rfl
      · rw [at_i ea] at ha
        rw [List.getElem?_set_ne n2] at hb
        exact hn b y p (Ne.symm ne) eb' ha hb
    · rcases set_get eb with ⟨rfl, rfl⟩ | ⟨n2, eb'⟩
      · rw [at_i eb] at hb
        rw [List.getElem?_set_ne n1] at ha
        exact hn a x p ne ea' hb ha
      · rw [List.getElem?_set_ne n1] at ha
        rw [List.getElem?_set_ne n2] at hb
        exact k.sep a b x y p ne ea' eb' ha hb
theorem Ok.setG (k : Ok S H0 G0 σ H G ρ) {i : Nat} {ov : Option V} {s : Sl} (no : isOwn s = false) (h : SlR S H0 H G ov s) : Ok S H0 G0 (σ.set i ov) H G (ρ.set i s) :=
  k.setA h (fun j b p _ _ f _ => by rw [f.own] at no; cases no) fun z => by rw [no] at z; cases z
theorem Ok.setV (k : Ok S H0 G0 σ H G ρ) {i : Nat} {v : V} {d : D} (h : Rp G v d) : Ok S H0 G0 (σ.set i (some v)) H G (ρ.set i (.va d)) := k.setG rfl ⟨v, rfl, h⟩
theorem Ok.fresh (k : Ok S H0 G0 σ H G ρ) (t : Step H G H' G') {j : Nat} {b : Sl} {p : Addr} (hp : H p = none) (e : ρ[j]? = some b) (h : FP H' G' σ[j]? p b) : False := by
  obtain ⟨ov, e1, e2⟩ := k.sl j b e
  rw [e1] at h
  exact ((h.back e2 fun _ _ _ _ _ r _ => r.step t).inn e2).1 hp
theorem Ok.setN (k : Ok S H0 G0 σ H G ρ) (t : Step H G H' G') {i : Nat} {ov : Option V} {s : Sl} (h : SlR S H0 H' G' ov s) (hp : ∀ p, FP H' G' (some ov) p s → H p = none) (hio : isOwn s = true → S.io i = none) : Ok S H0 G0 (σ.set i ov) H' G' (ρ.set i s) :=
  (k.step t).setA h (fun j b q _ e f g => k.fresh t (hp q f) e g) hio
theorem Ok.setO (k : Ok S H0 G0 σ H G ρ) (t : Step H G H' G') {i : Nat} {p : Addr} {s : Sl} (fl : ∀ k d, s ≠ .ot k d) (h : SlR S H0 H' G' (some (.ref p)) s) (hp : H p = none) (hio : S.io i = none) : Ok S H0 G0 (σ.set i (some (.ref p))) H' G' (ρ.set i s) :=
  k.setN t h (fun q f => by
    have : q = p := by
      cases s with
      | ow _ =>
        have f : some (some (V.ref p)) = some (some (V.ref q)) := f
        cases f
        rfl
      | od _ =>
        have f : some (some (V.ref p)) = some (some (V.ref q)) := f
        cases f
        rfl
      | ot k d => exact absurd rfl (fl k d)
      | _ => exact f.elim
    rw [this]
    exact hp) fun _ => hio
theorem Ok.wr (k : Ok S H0 G0 σ H G ρ) (t : Step H G H' G') {i : Nat} {p : Addr} {s s' : Sl} {o : HO} (es : ρ[i]? = some s) (fi : FP H G σ[i]? p s)
    (h : ∀ ov, σ[i]? = some ov → SlR S H0 (L2.upd H' p o) G' ov s') (fp : ∀ q, FP (L2.upd H' p o) G' σ[i]? q s' → FP H G σ[i]? q s ∨ H q = none) : Ok S H0 G0 σ (L2.upd H' p o) G' (ρ.set i s') := by
  obtain ⟨p1, p2, p3⟩ := k.fpIn es fi
  have g1 : G' p = none := t.sep p p2 p1
  have k1 := k.step t
  have nofi : ∀ (j : Nat) (b : Sl) (q : Addr), i ≠ j → ρ[j]? = some b → FP H' G' σ[j]? q b → FP H G σ[j]? q b := fun j b q ne e f => by
    obtain ⟨ov, e1, e2⟩ := k.sl j b e
    rw [e1] at f ⊢
    exact f.back e2 fun _ _ _ _ _ r _ => r.step t
  have keep : ∀ (j : Nat) (b : Sl), i ≠ j → ρ[j]? = some b → ∀ v sh d f, σ[j]? = some (some v) → RT H' G' sh v d f → b = .ot sh d → RT (L2.upd H' p o) G' sh v d f := by
    intro j b ne e v sh d f ev r eb
    subst eb
    refine r.mono (Same.refl _) fun q hq => ⟨(r.own q hq).2, ?_⟩
    rw [upd_ne]
    intro z
    subst z
    exact k.sep i j s _ q ne es e fi (nofi j _ q ne e ⟨v, f, ev, r, hq⟩)
  have sl' : ∀ (j : Nat) (t : Sl), (ρ.set i s')[j]? = some t → ∃ ov, σ[j]? = some ov ∧ SlR S H0 (L2.upd H' p o) G' ov t := fun j t e => by
    rcases set_get e with ⟨rfl, rfl⟩ | ⟨ne, e⟩
    · obtain ⟨ov, e1, _⟩ := k.sl i s es
      exact ⟨ov, e1, h ov e1⟩
    · obtain ⟨ov, e1, e2⟩ := k1.sl j t e
      refine ⟨ov, e1, ?_⟩
      cases t with
      | un => exact trivial
      | va d => exact e2
      | ex er => exact e2
      | ow ds =>
        obtain ⟨q, vs, a, b, c, d, f⟩ := e2
        subst a
        refine ⟨q, vs, rfl, ?_, c, d, f⟩
        rw [upd_ne]
        · exact b
        · intro z
          subst z
          exact k.sep i j s _ q ne es e fi e1
      | od ds =>
        obtain ⟨q, vs, a, b, c, d, f⟩ := e2
        subst a
        refine ⟨q, vs, rfl, ?_, c, d, f⟩
        rw [upd_ne]
        · exact b
        · intro z
          subst z
          exact k.sep i j s _ q ne es e fi e1
      | ot sh d =>
        obtain ⟨v, fp, a, b, c, f⟩ := e2
        subst a
        exact ⟨v, fp, rfl, keep j _ ne e v sh d fp e1 b rfl, c, f⟩
      | br sh d =>
        obtain ⟨v, fp, a, b, c⟩ := e2
        exact ⟨v, fp, a, b.mono (Same.refl _) fun q hq => ⟨(b.own q hq).2, upd_ne fun z => c q hq (by rw [z]; exact p3)⟩, c⟩
  have stp : Step H0 G0 (L2.upd H' p o) G' := ⟨fun a u e => by
      rw [upd_ne (ne_of_none e p3)]
      exact k1.st.hh a u e, k1.st.gg, fun a u e => by
      rw [upd_ne (ne_of_none e g1)]
      exact k1.st.sub a u e, k1.st.sep⟩
  refine ⟨stp, by rw [List.length_set]; exact k.len, sl', ?_, fun a v t e1 e2 e3 => ?_⟩
  rotate_left
  · rcases set_get e2 with ⟨rfl, rfl⟩ | ⟨ne, e2⟩
    · exact k.pin i v s e1 es fi.own
    · exact k.pin a v t e1 e2 e3
  have old : ∀ (a : Nat) (x : Sl) (q : Addr), (ρ.set i s')[a]? = some x → FP (L2.upd H' p o) G' σ[a]? q x → (∃ y, ρ[a]? = some y ∧ FP H G σ[a]? q y) ∨ (i = a ∧ H q = none) := fun a x q ea ha => by
    rcases set_get ea with ⟨rfl, rfl⟩ | ⟨ne, ea⟩
    · rcases fp q ha with z | z
      · exact .inl ⟨s, es, z⟩
      · exact .inr ⟨rfl, z⟩
    · obtain ⟨ov, e1, e2⟩ := k1.sl a x ea
      refine .inl ⟨x, ea, nofi a x q ne ea ?_⟩
      rw [e1] at ha ⊢
      cases x with
      | ow _ => exact ha
      | od _ => exact ha
      | ot sh d =>
        obtain ⟨v, fp, a1, b, c, f⟩ := e2
        subst a1
        exact ha.back (S := S) (H0 := H0) ⟨v, fp, rfl, b, c, f⟩ fun v' sh' d' f' ev r' eq => by
          cases ev
          cases eq
          exact keep a _ ne ea _ _ _ f' e1 r' rfl
      | _ => exact ha.elim
  have inn : ∀ (a : Nat) (y : Sl) (q : Addr), ρ[a]? = some y → FP H G σ[a]? q y → H q ≠ none := fun a y q e f => (k.fpIn e f).1
  exact fun a b x y q ne ea eb ha hb => by
    rcases old a x q ea ha with ⟨x', ex, fx⟩ | ⟨ia, na⟩
    · rcases old b y q eb hb with ⟨y', ey, fy⟩ | ⟨ib, nb⟩
      · exact k.sep a b x' y' q ne ex ey fx fy
      · exact inn a x' q ex fx nb
    · rcases old b y q eb hb with ⟨y', ey, fy⟩ | ⟨ib, nb⟩
      · exact inn b y' q ey fy na
      · exact ne (ia.symm.trans ib)
theorem Ok.write (k : Ok S H0 G0 σ H G ρ) {i : Nat} {p : Addr} {s s' : Sl} {o : HO} (es : ρ[i]? = some s) (os : isOwn s = true) (fl : ∀ k d, s ≠ .ot k d) (fl' : ∀ k d, s' ≠ .ot k d) (hp : σ[i]? = some (some (.ref p)))
    (h : SlR S H0 (L2.upd H p o) G (some (.ref p)) s') : Ok S H0 G0 σ (L2.upd H p o) G (ρ.set i s') := by
  have fi : FP H G σ[i]? p s := by
    cases s with
    | ow _ => exact hp
    | od _ => exact hp
    | ot k d => exact absurd rfl (fl k d)
    | _ => cases os
  refine k.wr (Step.refl k.st.sub) es fi (fun ov e => by rw [hp] at e; cases e; exact h) fun q f => .inl ?_
  have : q = p := by
    cases s' with
    | ow _ =>
      have f : σ[i]? = some (some (V.ref q)) := f
      rw [hp] at f
      cases f
      rfl
    | od _ =>
      have f : σ[i]? = some (some (V.ref q)) := f
      rw [hp] at f
      cases f
      rfl
    | ot k d => exact absurd rfl (fl' k d)
    | _ => exact f.elim
  rw [this]
  exact fi
theorem Ok.less (k : Ok S H0 G0 σ H G ρ) {i : Nat} {s s' : Sl} (es : ρ[i]? = some s) (h : ∀ ov, σ[i]? = some ov → SlR S H0 H G ov s')
    (f1 : ∀ q, FP H G σ[i]? q s' → FP H G σ[i]? q s) (os : isOwn s = true) : Ok S H0 G0 σ H G (ρ.set i s') := by
  refine ⟨k.st, by rw [List.length_set]; exact k.len, fun a x e => ?_, fun a b x y q n1 ea eb fa fb => ?_, fun a v t e1 e2 e3 => ?_⟩
  rotate_right
  · rcases set_get e2 with ⟨rfl, rfl⟩ | ⟨ne, e2⟩
    · exact k.pin i v s e1 es os
    · exact k.pin a v t e1 e2 e3
  · rcases set_get e with ⟨rfl, rfl⟩ | ⟨n1, e⟩
    · obtain ⟨ov, e1, _⟩ := k.sl i s es
      exact ⟨ov, e1, h ov e1⟩
    · exact k.sl a x e
  · have old : ∀ (c : Nat) (z : Sl), (ρ.set i s')[c]? = some z → FP H G σ[c]? q z → ∃ z', ρ[c]? = some z' ∧ FP H G σ[c]? q z' := fun c z e f => by
      rcases set_get e with ⟨rfl, rfl⟩ | ⟨_, e⟩
      · exact ⟨s, es, f1 q f⟩
      · exact ⟨z, e, f⟩
    obtain ⟨x', ex, fx⟩ := old a x ea fa
    obtain ⟨y', ey, fy⟩ := old b y eb fb
    exact k.sep a b x' y' q n1 ex ey fx fy
theorem Ok.move (k : Ok S H0 G0 σ H G ρ) {i j : Nat} {ov' : Option V} {s s' t : Sl} (es : ρ[i]? = some s) (h : ∀ ov, σ[i]? = some ov → SlR S H0 H G ov s') (ht : SlR S H0 H G ov' t)
    (f1 : ∀ q, FP H G σ[i]? q s' → FP H G σ[i]? q s) (f2 : ∀ q, FP H G (some ov') q t → FP H G σ[i]? q s) (f3 : ∀ q, FP H G σ[i]? q s' → FP H G (some ov') q t → False) (os : isOwn s = true) (hio : S.io j = none) : Ok S H0 G0 (σ.set j ov') H G ((ρ.set i s').set j t) := by
  have k1 := k.less es h f1 os
  refine k1.setA ht (fun a b q n1 eb fa fb => ?_) fun _ => hio
  rcases set_get eb with ⟨rfl, rfl⟩ | ⟨n2, eb⟩
  · exact f3 q fb fa
  · exact k.sep i a s b q n2 es eb (f2 q fa) fb
end

inductive Kd where
  | e | s | b | o | m | d
  | w (k : Sh)
  /-- a value of the shape k0, and what stands behind the parameters that are handed back -/
  | i (k0 : Sh) (ms : List (Option Sh)) (vs : List V)
inductive IoR (H G : Hp) : List (Option Sh) → List V → List D → List Addr → Prop
  | nil : IoR H G [] [] [] []
  | va {ms : List (Option Sh)} {v : V} {vs : List V} {ss : List D} {f : List Addr} : IoR H G ms vs ss f → IoR H G (none :: ms) (v :: vs) ss f
  | io {ms : List (Option Sh)} {k : Sh} {v : V} {vs : List V} {s : D} {ss : List D} {f1 f2 : List Addr} : RT H G k v s f1 → IoR H G ms vs ss f2 → IoR H G (some k :: ms) (v :: vs) (s :: ss) (f1 ++ f2)
def RD (H' G' : Hp) (v : V) (d : D) : Prop := ∃ p kvs es, d = .dict es ∧ v = .ref p ∧ (H' p = some (.dK kvs) ∨ ∃ o, H' p = some (.frz o (.dK kvs))) ∧ RpK G' kvs es
def RS (H' G' : Hp) (v : V) : D → Prop
  | .list ds => ∃ p vs, v = .ref p ∧ H' p = some (.lst vs) ∧ RpL G' vs ds
  | d => Rp G' v d
def RK : Kd → Hp → Hp → Hp → V → D → Prop
  | .e, _, _, G', v, d => Rp G' v d
  | .s, _, H', G', v, d => RS H' G' v d
  | .b, _, H', _, v, d => Rp H' v d
  | .o, H, H', G', v, d => ∃ p vs ds, d = .list ds ∧ v = .ref p ∧ H' p = some (.lst vs) ∧ H p = none ∧ G' p = none ∧ RpL G' vs ds
  | .m, H, H', G', v, d => ∃ p kvs es, d = .dict es ∧ v = .ref p ∧ H' p = some (.dK kvs) ∧ H p = none ∧ G' p = none ∧ RpK G' kvs es
  | .d, _, H', G', v, d => RD H' G' v d
  | .w k, H, H', G', v, d => ∃ fp, RT H' G' k v d fp ∧ fp.Nodup ∧ ∀ p ∈ fp, H p = none
  | .i k0 ms vs, H, H', G', v, d => ∃ d0 ss f0 fp, d = .tuple (d0 :: ss) ∧ RT H' G' k0 v d0 f0 ∧ IoR H' G' ms vs ss fp ∧ (f0 ++ fp).Nodup ∧ ∀ p ∈ f0 ++ fp, H p = none
theorem RK.anti {k : Kd} {H H1 H' G' : Hp} {v : V} {d : D} (s : Same H H1) (h : RK k H1 H' G' v d) : RK k H H' G' v d := by
  cases k with
  | e => exact h
  | s => exact h
  | b => exact h
  | o =>
    obtain ⟨p, vs, ds, a, b, c, d, e, f⟩ := h
    exact ⟨p, vs, ds, a, b, c, Same.free s d, e, f⟩
  | m =>
    obtain ⟨p, vs, ds, a, b, c, d, e, f⟩ := h
    exact ⟨p, vs, ds, a, b, c, Same.free s d, e, f⟩
  | d => exact h
  | w k =>
    obtain ⟨fp, a, b, c⟩ := h
    exact ⟨fp, a, b, fun p hp => Same.free s (c p hp)⟩
  | i k0 ms vs =>
    obtain ⟨d0, ss, f0, fp, a, b, c, e, f⟩ := h
    exact ⟨d0, ss, f0, fp, a, b, c, e, fun p hp => Same.free s (f p hp)⟩
def ExW (S : Sx) (σ : St) (H G : Hp) (er : Er) : Prop := ∀ c dd H' G', Step H G H' G' → ErR S.ca S.cf G' er c dd → S.W c dd σ H'
theorem ExW.step {S : Sx} {σ : St} {H G H1 G1 : Hp} {er : Er} (t : Step H G H1 G1) (h : ExW S σ H G er) : ExW S σ H1 G1 er := fun c dd H' G' t' q => h c dd H' G' (t.trans t') q
def TV (S : Sx) (k : Kd) (t : TE) (f : Rho → Rs D) : Prop := ∀ H0 G0 σ H G ρ (Q : VK), Ok S H0 G0 σ H G ρ → Wp (f ρ) (fun d => ∀ v H' G', Step H G H' G' → RK k H H' G' v d → Q v H') (ExW S σ H G) → t σ H Q
def XX (S : Sx) (k : Kd) (e : Expr) (f : Rho → Rs D) : Prop := ∃ t, PE S.X e t ∧ TV S k t f
def TB (S : Sx) (t : TT) (f : Rho → Rs Bool) : Prop := ∀ H0 G0 σ H G ρ (Q : Bool → Hp → Prop), Ok S H0 G0 σ H G ρ → Wp (f ρ) (fun b => ∀ H' G', Step H G H' G' → Q b H') (ExW S σ H G) → t σ H Q
def XT (S : Sx) (e : Expr) (f : Rho → Rs Bool) : Prop := ∃ t, PT S.X e t ∧ TB S t f
def RKL : Kd → Hp → Hp → List V → List D → Prop
  | .e, _, G', vs, ds => RpL G' vs ds
  | _, H', _, vs, ds => RpL H' vs ds
def TAr (S : Sx) (k : Kd) (t : TA) (f : Rho → Rs (List D)) : Prop := ∀ H0 G0 σ H G ρ (Q : List V → Hp → Prop), Ok S H0 G0 σ H G ρ → Wp (f ρ) (fun ds => ∀ vs H' G', Step H G H' G' → RKL k H' G' vs ds → Q vs H') (ExW S σ H G) → t σ H Q
def XA (S : Sx) (k : Kd) (es : List Expr) (f : Rho → Rs (List D)) : Prop := ∃ t, PA S.X es t ∧ TAr S k t f

theorem RS.of_e {H' G' : Hp} {v : V} {d : D} (s : Same G' H') (r : Rp G' v d) : RS H' G' v d := by
  cases d with
  | list ds =>
    obtain ⟨a, xs, rfl, h, hl⟩ := r.lst_inv
    exact ⟨a, xs, rfl, s _ _ h, hl⟩
  | dict es => exact r
  | none => exact r
  | bool b => exact r
  | int i => exact r
  | str x => exact r
  | tuple ds => exact r
theorem RS.to_b {H' G' : Hp} {v : V} {d : D} (s : Same G' H') (r : RS H' G' v d) : Rp H' v d := by
  cases d with
  | list ds =>
    obtain ⟨a, xs, rfl, h, hl⟩ := r
    exact .lst h (hl.mono s)
  | dict es => exact Rp.mono s r
  | none => exact Rp.mono s r
  | bool b => exact Rp.mono s r
  | int i => exact Rp.mono s r
  | str x => exact Rp.mono s r
  | tuple ds => exact Rp.mono s r
theorem RS.step {H G H' G' : Hp} {v : V} {d : D} (s : Step H G H' G') (r : RS H G v d) : RS H' G' v d := by
  cases d with
  | list ds =>
    obtain ⟨a, xs, rfl, h, hl⟩ := r
    exact ⟨a, xs, rfl, s.hh _ _ h, hl.mono s.gg⟩
  | dict es => exact Rp.mono s.gg r
  | none => exact Rp.mono s.gg r
  | bool b => exact Rp.mono s.gg r
  | int i => exact Rp.mono s.gg r
  | str x => exact Rp.mono s.gg r
  | tuple ds => exact Rp.mono s.gg r
section
variable {S : Sx} {t : TE} {f : Rho → Rs D}
theorem TV.e_s (h : TV S .e t f) : TV S .s t f := fun H0 G0 σ H G ρ Q k w => h H0 G0 σ H G ρ Q k (w.imp (fun d q v H' G' s r => q v H' G' s (RS.of_e s.sub r)) fun _ z => z)
theorem TV.s_b (h : TV S .s t f) : TV S .b t f := fun H0 G0 σ H G ρ Q k w => h H0 G0 σ H G ρ Q k (w.imp (fun d q v H' G' s r => q v H' G' s (RS.to_b s.sub r)) fun _ z => z)
theorem XX.e_s {e : Expr} (h : XX S .e e f) : XX S .s e f := let ⟨t, a, b⟩ := h; ⟨t, a, b.e_s⟩
theorem XX.s_b {e : Expr} (h : XX S .s e f) : XX S .b e f := let ⟨t, a, b⟩ := h; ⟨t, a, b.s_b⟩
theorem TV.e_b (h : TV S .e t f) : TV S .b t f := fun H0 G0 σ H G ρ Q k w => h H0 G0 σ H G ρ Q k (w.imp (fun d q v H' G' s r => q v H' G' s (r.mono s.sub)) fun _ z => z)
theorem TV.o_e (h : TV S .o t f) : TV S .e t f := fun H0 G0 σ H G ρ Q k w => h H0 G0 σ H G ρ Q k (w.imp (fun d q v H' G' s r => by
  obtain ⟨p, vs, ds, rfl, rfl, c, d, e, f⟩ := r
  exact q _ H' (upd G' p (.lst vs)) (s.give d c e) (.lst upd_same (f.mono (same_new e)))) fun _ z => z)
theorem XX.e_b {e : Expr} (h : XX S .e e f) : XX S .b e f := let ⟨t, a, b⟩ := h; ⟨t, a, b.e_b⟩
theorem XX.o_e {e : Expr} (h : XX S .o e f) : XX S .e e f := let ⟨t, a, b⟩ := h; ⟨t, a, b.o_e⟩
def fSc (f : Rho → Rs D) : Rho → Rs D := fun ρ => (f ρ).bind fun d => if scal1 d = true then .ok d else .stuck
theorem TV.sc (h : TV S .b t f) : TV S .e t (fSc f) := fun H0 G0 σ H G ρ Q k w => h H0 G0 σ H G ρ Q k (Wp.imp w.bind (fun d q v H' G' s r => by
  split at q
  · rename_i hs
    exact q v H' G' s (Rp.scal r hs)
  · exact q.elim) fun _ z => z)
theorem xx_sc {e : Expr} (h : XX S .b e f) : XX S .e e (fSc f) := let ⟨t, a, b⟩ := h; ⟨t, a, b.sc⟩
end

def fV (i : Nat) : Rho → Rs D := fun ρ => match ρ[i]? with
  | some (.va d) => .ok d
  | _ => .stuck
def fB (i : Nat) : Rho → Rs D := fun ρ => match ρ[i]? with
  | some (.va d) => .ok d
  | some (.ow ds) => .ok (.list ds)
  | _ => .stuck
def fC (d : D) : Rho → Rs D := fun _ => .ok d
section
variable {S : Sx}
theorem tv_var (i : Nat) : TV S .e (tVar i) (fV i) := fun H0 G0 σ H G ρ Q k w => by
  unfold fV at w
  cases e : ρ[i]? with
  | none => rw [e] at w; exact w.elim
  | some s =>
    obtain ⟨ov, e1, e2⟩ := k.sl i s e
    cases s with
    | va d =>
      rw [e] at w
      obtain ⟨v, rfl, r⟩ := e2
      exact ⟨v, e1, w v H G (Step.refl k.st.sub) r⟩
    | _ => rw [e] at w; exact w.elim
theorem tb_var (i : Nat) : TV S .s (tVar i) (fB i) := fun H0 G0 σ H G ρ Q k w => by
  unfold fB at w
  cases e : ρ[i]? with
  | none => rw [e] at w; exact w.elim
  | some s =>
    obtain ⟨ov, e1, e2⟩ := k.sl i s e
    cases s with
    | va d =>
      rw [e] at w
      obtain ⟨v, rfl, r⟩ := e2
      exact ⟨v, e1, w v H G (Step.refl k.st.sub) (RS.of_e k.st.sub r)⟩
    | ow d =>
      rw [e] at w
      obtain ⟨p, vs, rfl, a, b, c, r⟩ := e2
      exact ⟨_, e1, w _ H G (Step.refl k.st.sub) ⟨p, vs, rfl, a, r⟩⟩
    | _ => rw [e] at w; exact w.elim
theorem xv (i : Nat) {x : Str} {pos : Pos} (hN : S.X.N[i]? = some x := by rfl) (hv : Vis S.X.env.scope x := by first | exact Or.inl rfl | exact Or.inr (Or.inl rfl) | exact Or.inr (Or.inr rfl)) (hd : (x == ("__debug__" : Str)) = false := by decide)
    (hcd : (x == ("__classdict__" : Str)) = false := by decide) : XX S .e (.Name x pos) (fV i) := ⟨_, pe_var hN hv hd hcd, tv_var i⟩
theorem xb (i : Nat) {x : Str} {pos : Pos} (hN : S.X.N[i]? = some x := by rfl) (hv : Vis S.X.env.scope x := by first | exact Or.inl rfl | exact Or.inr (Or.inl rfl) | exact Or.inr (Or.inr rfl)) (hd : (x == ("__debug__" : Str)) = false := by decide)
    (hcd : (x == ("__classdict__" : Str)) = false := by decide) : XX S .s (.Name x pos) (fB i) := ⟨_, pe_var hN hv hd hcd, tb_var i⟩
theorem tv_c {v : V} {d : D} (h : ∀ G, Rp G v d) : TV S .e (tC v) (fC d) := fun H0 G0 σ H G ρ Q k w => w v H G (Step.refl k.st.sub) (h G)
theorem xi {i : Int} {j : Nat} {pos : Pos} : XX S .e (.Constant (.int i) j pos) (fC (.int i)) := ⟨_, pe_int, tv_c fun _ => .int i⟩
theorem xbl {b : Bool} {j : Nat} {pos : Pos} : XX S .e (.Constant (.bool b) j pos) (fC (.bool b)) := ⟨_, pe_bl, tv_c fun _ => .bl b⟩
theorem xn {j : Nat} {pos : Pos} : XX S .e (.Constant .none j pos) (fC .none) := ⟨_, pe_non, tv_c fun _ => .non⟩
end

def fBin (o : D → D → Rs D) (fa fb : Rho → Rs D) : Rho → Rs D := fun ρ => (fa ρ).bind fun x => (fb ρ).bind fun y => o x y
def fUn (o : D → Rs D) (fa : Rho → Rs D) : Rho → Rs D := fun ρ => (fa ρ).bind o
def isEB : Kd → Prop
  | .e => True
  | .s => True
  | .b => True
  | .d => True
  | _ => False
def OpS (ki kj k : Kd) (r : R2) (o : D → D → Rs D) : Prop := ∀ H G x y dx dy (Q : VK), Same G H → RK ki H H G x dx → RK kj H H G y dy → Wp (o dx dy) (fun d => ∀ v H' G', Step H G H' G' → RK k H H' G' v d → Q v H') (fun _ => False) → r x y H Q
def UnS (ki k : Kd) (r : V → Hp → VK → Prop) (o : D → Rs D) : Prop := ∀ H G x dx (Q : VK), Same G H → RK ki H H G x dx → Wp (o dx) (fun d => ∀ v H' G', Step H G H' G' → RK k H H' G' v d → Q v H') (fun _ => False) → r x H Q
def NoX {α : Type} (r : Rs α) : Prop := ∀ e, r ≠ .exc e
theorem Wp.noX {α : Type} {r : Rs α} {P : α → Prop} {E E' : Er → Prop} (n : NoX r) (h : Wp r P E) : Wp r P E' := by
  cases r with
  | ok a => exact h
  | exc e => exact absurd rfl (n e)
  | stuck => exact h
section
variable {S : Sx} {k : Kd} {r : R2} {ru : V → Hp → VK → Prop} {o : D → D → Rs D} {ou : D → Rs D} {ta tb : TE} {fa fb : Rho → Rs D}
theorem RD.step {H G H' G' : Hp} {v : V} {d : D} (s : Step H G H' G') (r : RD H G v d) : RD H' G' v d := by
  obtain ⟨p, kvs, es, a, b, c, f⟩ := r
  refine ⟨p, kvs, es, a, b, ?_, RpK.mono s.gg f⟩
  rcases c with c | ⟨o, c⟩
  · exact .inl (s.hh _ _ c)
  · exact .inr ⟨o, s.hh _ _ c⟩
theorem RK.carry {ki : Kd} (hk : isEB ki) {H H1 G1 H2 G2 : Hp} {v : V} {d : D} (s : Step H1 G1 H2 G2) (h : RK ki H H1 G1 v d) : RK ki H2 H2 G2 v d := by
  cases ki with
  | e => exact Rp.mono s.gg h
  | s => exact RS.step s h
  | b => exact Rp.mono s.hh h
  | o => exact hk.elim
  | m => exact hk.elim
  | d => exact RD.step s h
  | i _ _ _ => exact hk.elim
  | w k => exact hk.elim
theorem tv_op {ki kj : Kd} (hk : isEB ki) (hj : isEB kj) (nx : ∀ x y, NoX (o x y)) (ho : OpS ki kj k r o) (ha : TV S ki ta fa) (hb : TV S kj tb fb) : TV S k (tOp r ta tb) (fBin o fa fb) := fun H0 G0 σ H G ρ Q q w => by
  refine ha H0 G0 σ H G ρ _ q (Wp.imp w.bind (fun x wx v H1 G1 s1 r1 => ?_) fun _ z => z)
  have q1 := q.step s1
  refine hb H0 G0 σ H1 G1 ρ _ q1 (Wp.imp wx.bind (fun y wy u H2 G2 s2 r2 => ?_) fun e z => z.step s1)
  refine ho H2 G2 v u x y Q s2.sub (r1.carry hk s2) (r2.carry hj (Step.refl s2.sub)) (Wp.imp (Wp.noX (E' := fun _ => False) (nx x y) wy) (fun d qd v' H' G' s3 r3 => qd v' H' G' (s1.trans (s2.trans s3)) (RK.anti (s1.hh.trans s2.hh) r3)) fun _ z => z)
theorem tv_un {ki : Kd} (hk : isEB ki) (nx : ∀ x, NoX (ou x)) (ho : UnS ki k ru ou) (ha : TV S ki ta fa) : TV S k (tUn ru ta) (fUn ou fa) := fun H0 G0 σ H G ρ Q q w => by
  refine ha H0 G0 σ H G ρ _ q (Wp.imp w.bind (fun x wx v H1 G1 s1 r1 => ?_) fun _ z => z)
  refine ho H1 G1 v x Q s1.sub (r1.carry hk (Step.refl s1.sub)) (Wp.imp (Wp.noX (E' := fun _ => False) (nx x) wx) (fun d qd v' H' G' s3 r3 => qd v' H' G' (s1.trans s3) (RK.anti s1.hh r3)) fun _ z => z)
end
end Ct

namespace Ct
open PySem PySem.Spec PyProof.Rows L2

def sAdd : D → D → Rs D
  | .int i, .int j => .ok (.int (i + j))
  | .list a, .list b => if a.length + b.length ≤ sizeLine then .ok (.list (a ++ b)) else .stuck
  | _, _ => .stuck
def sAddI : D → D → Rs D
  | .int i, .int j => .ok (.int (i + j))
  | _, _ => .stuck
def sCat : D → D → Rs D
  | .list a, .list b => if a.length + b.length ≤ sizeLine then .ok (.list (a ++ b)) else .stuck
  | _, _ => .stuck
def sRep : D → D → Rs D
  | .list a, .int k => if -(2 ^ 63) ≤ k ∧ k < 2 ^ 63 ∧ a.length * k.toNat ≤ sizeLine then .ok (.list (List.replicate k.toNat a).flatten) else .stuck
  | _, _ => .stuck
def sSub : D → D → Rs D
  | .int i, .int j => .ok (.int (i - j))
  | _, _ => .stuck
def sMul : D → D → Rs D
  | .int i, .int j => if i.natAbs.log2 + j.natAbs.log2 < 1000000 then .ok (.int (i * j)) else .stuck
  | .list a, .int k => if -(2 ^ 63) ≤ k ∧ k < 2 ^ 63 ∧ a.length * k.toNat ≤ sizeLine then .ok (.list (List.replicate k.toNat a).flatten) else .stuck
  | _, _ => .stuck
def sDiv : D → D → Rs D
  | .int i, .int j => if 0 < j ∧ j.natAbs.log2 < 9000 then .ok (.int (i / j)) else .stuck
  | _, _ => .stuck
def sMod : D → D → Rs D
  | .int i, .int j => if 0 < j then .ok (.int (i % j)) else .stuck
  | _, _ => .stuck
def sNeg : D → Rs D
  | .int i => .ok (.int (-i))
  | _ => .stuck
def sLt : D → D → Rs D
  | .int i, .int j => .ok (.bool (decide (i < j)))
  | _, _ => .stuck
def sLe : D → D → Rs D
  | .int i, .int j => .ok (.bool (decide (i ≤ j)))
  | _, _ => .stuck
def sGt : D → D → Rs D
  | .int i, .int j => .ok (.bool (decide (j < i)))
  | _, _ => .stuck
def sGe : D → D → Rs D
  | .int i, .int j => .ok (.bool (decide (j ≤ i)))
  | _, _ => .stuck
def sEq (x y : D) : Rs D := match x, y with
  | .int i, .int j => .ok (.bool (decide (i = j)))
  | x, y => if SeqAt.shaped x = true ∧ SeqAt.shaped y = true then .ok (.bool (PyData.eqv x y)) else .stuck
def sNe (x y : D) : Rs D := match x, y with
  | .int i, .int j => .ok (.bool (!decide (i = j)))
  | x, y => if SeqAt.shaped x = true ∧ SeqAt.shaped y = true then .ok (.bool (!PyData.eqv x y)) else .stuck
def sIsN (x : D) : Rs D := match x with
  | .none => .ok (.bool true)
  | _ => .ok (.bool false)
def sNotN (x : D) : Rs D := match x with
  | .none => .ok (.bool false)
  | _ => .ok (.bool true)
def sIx (x i : D) : Rs D := match x, i with
  | .list ds, .int i => match atI ds i with
    | some d => .ok d
    | none => .stuck
  | .tuple ds, .int i => match atI ds i with
    | some d => .ok d
    | none => .stuck
  | .dict [(.bool true, .list ds)], .int i => match atI ds i with
    | some d => .ok d
    | none => .stuck
  | _, _ => .stuck
def sLen : D → Rs D
  | .list ds => .ok (.int (ds.length : Int))
  | .tuple ds => .ok (.int (ds.length : Int))
  | .dict [(.bool true, .list ds)] => .ok (.int (ds.length : Int))
  | _ => .stuck
def sAbs : D → Rs D
  | .int i => .ok (.int (if i < 0 then -i else i))
  | _ => .stuck
def sInt : D → Rs D
  | .int i => .ok (.int i)
  | .bool k => .ok (.int (if k then 1 else 0))
  | _ => .stuck
def sMin2 : D → D → Rs D
  | .int i, .int j => .ok (.int (if j < i then j else i))
  | _, _ => .stuck
def sMax2 : D → D → Rs D
  | .int i, .int j => .ok (.int (if j > i then j else i))
  | _, _ => .stuck
def intsD : List D → Option (List Int)
  | [] => some []
  | .int i :: r => (intsD r).map (i :: ·)
  | _ :: _ => none
theorem intsD_map : ∀ ns : List Int, intsD (ns.map PyData.int) = some ns
  | [] => rfl
  | n :: ns => by
    show (intsD (ns.map PyData.int)).map (n :: ·) = _
    rw [intsD_map ns]
    rfl
theorem intsD_eq : ∀ {ds : List D} {ns : List Int}, intsD ds = some ns → ds = ns.map PyData.int
  | [], ns, h => by cases h; rfl
  | .int i :: r, ns, h => by
    have h : (intsD r).map (i :: ·) = some ns := h
    cases e : intsD r with
    | none => rw [e] at h; cases h
    | some ms =>
      rw [e] at h
      cases h
      rw [intsD_eq e]
      rfl
  | .none :: _, _, h => by cases h
  | .bool _ :: _, _, h => by cases h
  | .str _ :: _, _, h => by cases h
  | .list _ :: _, _, h => by cases h
  | .tuple _ :: _, _, h => by cases h
  | .dict _ :: _, _, h => by cases h
def sSum : D → Rs D
  | .list ds => match intsD ds with
    | some ns => .ok (.int ns.sum)
    | none => .stuck
  | _ => .stuck
def lmax : List Int → Int
  | [] => 0
  | n :: ns => ns.foldl (fun a b => if b > a then b else a) n
def lmin : List Int → Int
  | [] => 0
  | n :: ns => ns.foldl (fun a b => if b < a then b else a) n
theorem foldmax (ns : List Int) : ∀ n : Int, (ns.foldl (fun a b => if b > a then b else a) n ∈ n :: ns) ∧ ∀ y ∈ n :: ns, y ≤ ns.foldl (fun a b => if b > a then b else a) n := by
  induction ns with
  | nil => intro n; exact ⟨List.mem_cons_self, fun y h => by rw [List.mem_singleton.mp h]; exact Int.le_refl n⟩
  | cons m ms ih =>
    intro n
    rw [List.foldl_cons]
    obtain ⟨a, b⟩ := ih (if m > n then m else n)
    refine ⟨?_, fun y h => ?_⟩
    · rcases List.mem_cons.mp a with z | z
      · rw [z]
        split
        · exact List.mem_cons_of_mem _ List.mem_cons_self
        · exact List.mem_cons_self
      · exact List.mem_cons_of_mem _ (List.mem_cons_of_mem _ z)
    · have c := b _ List.mem_cons_self
      rcases List.mem_cons.mp h with rfl | h
      · refine Int.le_trans ?_ c
        split <;> omega
      · rcases List.mem_cons.mp h with rfl | h
        · refine Int.le_trans ?_ c
          split <;> omega
        · exact b y (List.mem_cons_of_mem _ h)
theorem foldmin (ns : List Int) : ∀ n : Int, (ns.foldl (fun a b => if b < a then b else a) n ∈ n :: ns) ∧ ∀ y ∈ n :: ns, ns.foldl (fun a b => if b < a then b else a) n ≤ y := by
  induction ns with
  | nil => intro n; exact ⟨List.mem_cons_self, fun y h => by rw [List.mem_singleton.mp h]; exact Int.le_refl n⟩
  | cons m ms ih =>
    intro n
    rw [List.foldl_cons]
    obtain ⟨a, b⟩ := ih (if m < n then m else n)
    refine ⟨?_, fun y h => ?_⟩
    · rcases List.mem_cons.mp a with z | z
      · rw [z]
        split
        · exact List.mem_cons_of_mem _ List.mem_cons_self
        · exact List.mem_cons_self
      · exact List.mem_cons_of_mem _ (List.mem_cons_of_mem _ z)
    · have c := b _ List.mem_cons_self
      rcases List.mem_cons.mp h with rfl | h
      · refine Int.le_trans c ?_
        split <;> omega
      · rcases List.mem_cons.mp h with rfl | h
        · refine Int.le_trans c ?_
          split <;> omega
        · exact b y (List.mem_cons_of_mem _ h)
theorem lmax_le : ∀ {ns : List Int} {y : Int}, y ∈ ns → y ≤ lmax ns
  | n :: ns, y, h => (foldmax ns n).2 y h
theorem lmin_mem : ∀ {ns : List Int}, ns ≠ [] → lmin ns ∈ ns
  | [], h => absurd rfl h
  | n :: ns, _ => (foldmin ns n).1
theorem lmin_le : ∀ {ns : List Int} {y : Int}, y ∈ ns → lmin ns ≤ y
  | n :: ns, y, h => (foldmin ns n).2 y h
def sMax : D → Rs D
  | .list ds => match intsD ds with
    | some (n :: ns) => .ok (.int (lmax (n :: ns)))
    | _ => .stuck
  | _ => .stuck
def sMin : D → Rs D
  | .list ds => match intsD ds with
    | some (n :: ns) => .ok (.int (lmin (n :: ns)))
    | _ => .stuck
  | _ => .stuck
def insI (n : Int) : List Int → List Int
  | [] => [n]
  | m :: r => if n ≤ m then n :: m :: r else m :: insI n r
def sortI : List Int → List Int
  | [] => []
  | n :: r => insI n (sortI r)
theorem insI_perm (n : Int) : ∀ l : List Int, (insI n l).Perm (n :: l)
  | [] => List.Perm.refl _
  | m :: r => by
    unfold insI
    split
    · exact List.Perm.refl _
    · exact ((insI_perm n r).cons m).trans (List.Perm.swap n m r)
theorem sortI_perm : ∀ l : List Int, (sortI l).Perm l
  | [] => List.Perm.refl _
  | n :: r => (insI_perm n (sortI r)).trans ((sortI_perm r).cons n)
theorem insI_mem {n x : Int} {l : List Int} : x ∈ insI n l ↔ x = n ∨ x ∈ l := by
  rw [(insI_perm n l).mem_iff, List.mem_cons]
theorem insI_sorted (n : Int) : ∀ l : List Int, l.Pairwise (· ≤ ·) → (insI n l).Pairwise (· ≤ ·)
  | [], _ => List.pairwise_singleton _ _
  | m :: r, h => by
    unfold insI
    rw [List.pairwise_cons] at h
    split
    · rename_i c
      refine List.pairwise_cons.mpr ⟨fun y hy => ?_, List.pairwise_cons.mpr h⟩
      rcases List.mem_cons.mp hy with rfl | hy
      · exact c
      · exact Int.le_trans c (h.1 y hy)
    · rename_i c
      refine List.pairwise_cons.mpr ⟨fun y hy => ?_, insI_sorted n r h.2⟩
      rcases insI_mem.mp hy with rfl | hy
      · omega
      · exact h.1 y hy
theorem sortI_sorted : ∀ l : List Int, (sortI l).Pairwise (· ≤ ·)
  | [] => List.Pairwise.nil
  | n :: r => insI_sorted n _ (sortI_sorted r)
def sList : D → Rs D
  | .list ds => .ok (.list ds)
  | .tuple ds => .ok (.list ds)
  | _ => .stuck
def cutD (xs : List D) (lo hi : Option Int) : List D := (xs.drop (HT.sIx xs.length 0 lo)).take (HT.sIx xs.length xs.length hi - HT.sIx xs.length 0 lo)
theorem noX_ok {α : Type} (a : α) : NoX (Rs.ok a) := fun _ h => nomatch h
theorem noX_stuck {α : Type} : NoX (Rs.stuck : Rs α) := fun _ h => nomatch h
theorem noX_if {α : Type} {c : Prop} [Decidable c] {a b : Rs α} (ha : NoX a) (hb : NoX b) : NoX (if c then a else b) := by split <;> assumption
section
variable {S : Sx} {a b : Expr} {fa fb : Rho → Rs D} {pos : Pos}
theorem ops_int {g : Int → Int → D} {r : R2} {o : D → D → Rs D} {gv : Int → Int → V} (hr : ∀ i j H (Q : VK), Q (gv i j) H → r (.int i) (.int j) H Q) (hg : ∀ G i j, Rp G (gv i j) (g i j))
    (h1 : ∀ i j, o (.int i) (.int j) = .ok (g i j)) (h2 : ∀ x y, (∃ i j, x = .int i ∧ y = .int j) ∨ o x y = .stuck) : OpS .e .e .e r o := fun H G x y dx dy Q s hx hy w => by
  rcases h2 dx dy with ⟨i, j, rfl, rfl⟩ | z
  · cases Rp.int_inv hx
    cases Rp.int_inv hy
    rw [h1] at w
    exact hr i j H Q (w _ H G (Step.refl s) (hg G i j))
  · rw [z] at w
    exact w.elim
theorem ops_add : OpS .e .e .e (fun x y H Q => rI0 (fun i j => V.int (i + j)) x y H Q ∨ rCat x y H Q) sAdd := fun H G x y dx dy Q s hx hy w => by
  unfold sAdd at w
  split at w
  · cases Rp.int_inv hx
    cases Rp.int_inv hy
    exact .inl ⟨_, _, rfl, rfl, w _ H G (Step.refl s) (.int _)⟩
  · split at w
    · rename_i hl
      obtain ⟨p, xs, rfl, h1, l1⟩ := Rp.lst_inv hx
      obtain ⟨q, ys, rfl, h2, l2⟩ := Rp.lst_inv hy
      refine .inr ⟨p, q, xs, ys, rfl, rfl, s _ _ h1, s _ _ h2, by rw [l1.length, l2.length]; exact hl, fun n hn => ?_⟩
      exact w _ _ _ (Step.new s hn) (.lst upd_same ((l1.append l2).mono (same_new (Same.free s hn))))
    · exact w.elim
  · exact w.elim
theorem ops_cat : OpS .e .e .o rCat sCat := fun H G x y dx dy Q s hx hy w => by
  unfold sCat at w
  split at w
  · split at w
    · rename_i hl
      obtain ⟨p, xs, rfl, h1, l1⟩ := Rp.lst_inv hx
      obtain ⟨q, ys, rfl, h2, l2⟩ := Rp.lst_inv hy
      refine ⟨p, q, xs, ys, rfl, rfl, s _ _ h1, s _ _ h2, by rw [l1.length, l2.length]; exact hl, fun n hn => ?_⟩
      exact w _ _ _ (Step.newO s hn) ⟨n, _, _, rfl, rfl, upd_same, hn, Same.free s hn, l1.append l2⟩
    · exact w.elim
  · exact w.elim
theorem RpL.rep_flat {G : Hp} {xs : List V} {ds : List D} (h : RpL G xs ds) : ∀ n : Nat, RpL G (List.replicate n xs).flatten (List.replicate n ds).flatten
  | 0 => .nil
  | n + 1 => by
    rw [List.replicate_succ, List.replicate_succ, List.flatten_cons, List.flatten_cons]
    exact h.append (RpL.rep_flat h n)
theorem ops_mul : OpS .e .e .e (fun x y H Q => rI CMulW (fun i j => V.int (i * j)) x y H Q ∨ rRep x y H Q) sMul := fun H G x y dx dy Q s hx hy w => by
  unfold sMul at w
  split at w
  · split at w
    · rename_i hc
      cases Rp.int_inv hx
      cases Rp.int_inv hy
      exact .inl ⟨_, _, rfl, rfl, hc, w _ H G (Step.refl s) (.int _)⟩
    · exact w.elim
  · split at w
    · rename_i hl
      obtain ⟨p, xs, rfl, h1, l1⟩ := Rp.lst_inv hx
      cases Rp.int_inv hy
      refine .inr ⟨p, _, xs, rfl, rfl, s _ _ h1, hl.1, hl.2.1, by rw [l1.length]; exact hl.2.2, fun n hn => ?_⟩
      exact w _ _ _ (Step.new s hn) (.lst upd_same ((l1.rep_flat _).mono (same_new (Same.free s hn))))
    · exact w.elim
  · exact w.elim
theorem ops_rep : OpS .e .e .o rRep sRep := fun H G x y dx dy Q s hx hy w => by
  unfold sRep at w
  split at w
  · split at w
    · rename_i hl
      obtain ⟨p, xs, rfl, h1, l1⟩ := Rp.lst_inv hx
      cases Rp.int_inv hy
      refine ⟨p, _, xs, rfl, rfl, s _ _ h1, hl.1, hl.2.1, by rw [l1.length]; exact hl.2.2, fun n hn => ?_⟩
      exact w _ _ _ (Step.newO s hn) ⟨n, _, _, rfl, rfl, upd_same, hn, Same.free s hn, l1.rep_flat _⟩
    · exact w.elim
  · exact w.elim
theorem ops_div : OpS .e .e .e (rI CDivW fun i j => V.int (i / j)) sDiv := fun H G x y dx dy Q s hx hy w => by
  unfold sDiv at w
  split at w
  · split at w
    · rename_i hc
      cases Rp.int_inv hx
      cases Rp.int_inv hy
      exact ⟨_, _, rfl, rfl, hc, w _ H G (Step.refl s) (.int _)⟩
    · exact w.elim
  · exact w.elim
theorem ops_mod : OpS .e .e .e (rI (fun _ j => 0 < j) fun i j => V.int (i % j)) sMod := fun H G x y dx dy Q s hx hy w => by
  unfold sMod at w
  split at w
  · split at w
    · rename_i hc
      cases Rp.int_inv hx
      cases Rp.int_inv hy
      exact ⟨_, _, rfl, rfl, hc, w _ H G (Step.refl s) (.int _)⟩
    · exact w.elim
  · exact w.elim
theorem nx_add (x y : D) : NoX (sAdd x y) := by unfold sAdd; split <;> first | exact noX_ok _ | exact noX_stuck | exact noX_if (noX_ok _) noX_stuck
theorem nx_cat (x y : D) : NoX (sCat x y) := by unfold sCat; split <;> first | exact noX_ok _ | exact noX_stuck | exact noX_if (noX_ok _) noX_stuck
theorem nx_sub (x y : D) : NoX (sSub x y) := by unfold sSub; split <;> first | exact noX_ok _ | exact noX_stuck
theorem nx_mul (x y : D) : NoX (sMul x y) := by unfold sMul; split <;> first | exact noX_stuck | exact noX_if (noX_ok _) noX_stuck
theorem nx_rep (x y : D) : NoX (sRep x y) := by unfold sRep; split <;> first | exact noX_stuck | exact noX_if (noX_ok _) noX_stuck
theorem nx_div (x y : D) : NoX (sDiv x y) := by unfold sDiv; split <;> first | exact noX_stuck | exact noX_if (noX_ok _) noX_stuck
theorem nx_mod (x y : D) : NoX (sMod x y) := by unfold sMod; split <;> first | exact noX_stuck | exact noX_if (noX_ok _) noX_stuck
theorem two_ints {o : D → D → Rs D} (h : ∀ x y, (∃ i j, x = .int i ∧ y = .int j) ∨ o x y = .stuck) {g : Int → Int → D} (h1 : ∀ i j, o (.int i) (.int j) = .ok (g i j)) (x y : D) : NoX (o x y) := by
  rcases h x y with ⟨i, j, rfl, rfl⟩ | z
  · rw [h1]; exact noX_ok _
  · rw [z]; exact noX_stuck
theorem t_sub (x y : D) : (∃ i j, x = .int i ∧ y = .int j) ∨ sSub x y = .stuck := by unfold sSub; split; exact .inl ⟨_, _, rfl, rfl⟩; exact .inr rfl
theorem t_lt (x y : D) : (∃ i j, x = .int i ∧ y = .int j) ∨ sLt x y = .stuck := by unfold sLt; split; exact .inl ⟨_, _, rfl, rfl⟩; exact .inr rfl
theorem t_gt (x y : D) : (∃ i j, x = .int i ∧ y = .int j) ∨ sGt x y = .stuck := by unfold sGt; split; exact .inl ⟨_, _, rfl, rfl⟩; exact .inr rfl
theorem t_ge (x y : D) : (∃ i j, x = .int i ∧ y = .int j) ∨ sGe x y = .stuck := by unfold sGe; split; exact .inl ⟨_, _, rfl, rfl⟩; exact .inr rfl
theorem opor {X : Cx} {f : Value → Value → Sem Value} {r r' : R2} (h : OpR X f r) (h' : OpR X f r') : OpR X f (fun x y H Q => r x y H Q ∨ r' x y H Q) := OpR.or h h'
theorem xadd (ha : XX S .e a fa) (hb : XX S .e b fb) : XX S .e (.BinOp a .Add b pos) (fBin sAdd fa fb) :=
  let ⟨_, a1, a2⟩ := ha; let ⟨_, b1, b2⟩ := hb; ⟨_, pe_op (opor op_add op_cat) a1 b1, tv_op (ki := .e) (kj := .e) trivial trivial nx_add ops_add a2 b2⟩
theorem xcat (ha : XX S .e a fa) (hb : XX S .e b fb) : XX S .o (.BinOp a .Add b pos) (fBin sCat fa fb) :=
  let ⟨_, a1, a2⟩ := ha; let ⟨_, b1, b2⟩ := hb; ⟨_, pe_op op_cat a1 b1, tv_op (ki := .e) (kj := .e) trivial trivial nx_cat ops_cat a2 b2⟩
theorem xsub (ha : XX S .e a fa) (hb : XX S .e b fb) : XX S .e (.BinOp a .Sub b pos) (fBin sSub fa fb) :=
  let ⟨_, a1, a2⟩ := ha; let ⟨_, b1, b2⟩ := hb; ⟨_, pe_op op_sub a1 b1, tv_op (ki := .e) (kj := .e) trivial trivial nx_sub (ops_int (gv := fun i j => .int (i - j)) (fun i j H Q q => ⟨i, j, rfl, rfl, q⟩) (fun _ _ _ => .int _) (fun _ _ => rfl) t_sub) a2 b2⟩
theorem xmul (ha : XX S .e a fa) (hb : XX S .e b fb) : XX S .e (.BinOp a .Mult b pos) (fBin sMul fa fb) :=
  let ⟨_, a1, a2⟩ := ha; let ⟨_, b1, b2⟩ := hb; ⟨_, pe_op (opor op_mulW op_rep) a1 b1, tv_op (ki := .e) (kj := .e) trivial trivial nx_mul ops_mul a2 b2⟩
theorem xrep (ha : XX S .e a fa) (hb : XX S .e b fb) : XX S .o (.BinOp a .Mult b pos) (fBin sRep fa fb) :=
  let ⟨_, a1, a2⟩ := ha; let ⟨_, b1, b2⟩ := hb; ⟨_, pe_op op_rep a1 b1, tv_op (ki := .e) (kj := .e) trivial trivial nx_rep ops_rep a2 b2⟩
theorem xdiv (ha : XX S .e a fa) (hb : XX S .e b fb) : XX S .e (.BinOp a .FloorDiv b pos) (fBin sDiv fa fb) :=
  let ⟨_, a1, a2⟩ := ha; let ⟨_, b1, b2⟩ := hb; ⟨_, pe_op op_fdivW a1 b1, tv_op (ki := .e) (kj := .e) trivial trivial nx_div ops_div a2 b2⟩
theorem xmod (ha : XX S .e a fa) (hb : XX S .e b fb) : XX S .e (.BinOp a .Mod b pos) (fBin sMod fa fb) :=
  let ⟨_, a1, a2⟩ := ha; let ⟨_, b1, b2⟩ := hb; ⟨_, pe_op op_mod a1 b1, tv_op (ki := .e) (kj := .e) trivial trivial nx_mod ops_mod a2 b2⟩
theorem xpow {m n : Int} {j j' : Nat} {p p' : Pos} (h : CPow m n) : XX S .e (.BinOp (.Constant (.int m) j p) .Pow (.Constant (.int n) j' p') pos) (fC (.int (m ^ n.toNat))) :=
  ⟨_, pe_op op_pow pe_int pe_int, fun H0 G0 σ H G ρ Q q w => ⟨m, n, rfl, rfl, h, w _ H G (Step.refl q.st.sub) (.int _)⟩⟩
theorem xneg (ha : XX S .e a fa) : XX S .e (.UnaryOp .USub a pos) (fUn sNeg fa) :=
  let ⟨_, a1, a2⟩ := ha; ⟨_, pe_un un_neg a1, tv_un (ki := .e) trivial (fun x => by unfold sNeg; split <;> first | exact noX_ok _ | exact noX_stuck) (fun H G x dx Q s hx w => by
    unfold sNeg at w
    split at w
    · cases Rp.int_inv hx
      exact ⟨_, rfl, w _ H G (Step.refl s) (.int _)⟩
    · exact w.elim) a2⟩

end
mutual
theorem Rp.dp {K : PySem.W.Frag} {G : Hp} : ∀ {v : V} {d : D}, Rp G v d → d.canLay0 = true → Dp K G v d
  | _, _, .non, _ => .non
  | _, _, .bl b, _ => .bl b
  | _, _, .int i, _ => .int i
  | _, _, .lst h hl, c => .lst (.of h) (RpL.dp hl c)
  | _, _, .tup h hl, c => .tup (.of h) (RpL.dp hl c)
  | _, _, .dct _ _, c => by cases c
  | _, _, .ins _ _, c => by cases c
  | _, _, .scr _ _, c => by cases c
theorem RpL.dp {K : PySem.W.Frag} {G : Hp} : ∀ {v : List V} {d : List D}, RpL G v d → PyData.canLayAll0 d = true → DpAll K G v d
  | _, _, .nil, _ => .nil
  | _, _, .cons h hl, c => by
    have c' := (Bool.and_eq_true_iff.mp c)
    exact .cons (Rp.dp h c'.1) (RpL.dp hl c'.2)
end
theorem wp_ok {α : Type} {a : α} {P : α → Prop} {E : Er → Prop} (h : Wp (.ok a) P E) : P a := h
section
variable {S : Sx} {a b : Expr} {fa fb : Rho → Rs D} {pos : Pos} {ka kb : Kd}
def isB : Kd → Prop
  | .e => True
  | .s => True
  | .b => True
  | _ => False
theorem RK.to_b {k : Kd} (hk : isB k) {H0 H G : Hp} {v : V} {d : D} (s : Same G H) (h : RK k H0 H G v d) : Rp H v d := by
  cases k with
  | e => exact Rp.mono s h
  | s => exact RS.to_b s h
  | b => exact h
  | o => exact hk.elim
  | m => exact hk.elim
  | d => exact hk.elim
  | i _ _ _ => exact hk.elim
  | w k => exact hk.elim
theorem ops_eq {K : PySem.W.Frag} (ha : isB ka) (hb : isB kb) : OpS ka kb .e (fun x y H Q => rEq x y H Q ∨ rEqD K x y H Q) sEq := fun H G x y dx dy Q s hx hy w => by
  have rx := hx.to_b ha s
  have ry := hy.to_b hb s
  unfold sEq at w
  split at w
  · cases Rp.int_inv rx
    cases Rp.int_inv ry
    refine .inl ⟨rfl, ?_⟩
    have := wp_ok w _ H G (Step.refl s) (.bl _)
    rename_i i j
    have e : decide (V.int i = V.int j) = decide (i = j) := by
      by_cases h : i = j
      · subst h; simp
      · rw [decide_eq_false h, decide_eq_false (fun z => h (V.int.inj z))]
    rw [e]
    exact this
  · split at w
    · rename_i h
      exact .inr ⟨_, _, rx.dp (SeqAt.canLay_of_shaped h.1), ry.dp (SeqAt.canLay_of_shaped h.2), h.1, h.2, wp_ok w _ H G (Step.refl s) (.bl _)⟩
    · exact w.elim
theorem ops_ne {K : PySem.W.Frag} (ha : isB ka) (hb : isB kb) : OpS ka kb .e (fun x y H Q => rNe x y H Q ∨ rNeD K x y H Q) sNe := fun H G x y dx dy Q s hx hy w => by
  have rx := hx.to_b ha s
  have ry := hy.to_b hb s
  unfold sNe at w
  split at w
  · cases Rp.int_inv rx
    cases Rp.int_inv ry
    refine .inl ⟨rfl, ?_⟩
    have := wp_ok w _ H G (Step.refl s) (.bl _)
    rename_i i j
    have e : decide (V.int i = V.int j) = decide (i = j) := by
      by_cases h : i = j
      · subst h; simp
      · rw [decide_eq_false h, decide_eq_false (fun z => h (V.int.inj z))]
    rw [e]
    exact this
  · split at w
    · rename_i h
      exact .inr ⟨_, _, rx.dp (SeqAt.canLay_of_shaped h.1), ry.dp (SeqAt.canLay_of_shaped h.2), h.1, h.2, wp_ok w _ H G (Step.refl s) (.bl _)⟩
    · exact w.elim
theorem nx_eq (x y : D) : NoX (sEq x y) := by unfold sEq; split <;> first | exact noX_ok _ | exact noX_if (noX_ok _) noX_stuck
theorem nx_ne (x y : D) : NoX (sNe x y) := by unfold sNe; split <;> first | exact noX_ok _ | exact noX_if (noX_ok _) noX_stuck
theorem xeq (hu : S.X.A.units + 64 < cLine) (ha : XX S .b a fa) (hb : XX S .b b fb) : XX S .e (.Compare a [.Eq] [b] pos) (fBin sEq fa fb) :=
  let ⟨_, a1, a2⟩ := ha; let ⟨_, b1, b2⟩ := hb; ⟨_, pe_cmpR (opor op_eq (op_eqD hu)) a1 b1 (nomark _), tv_op (ki := .b) (kj := .b) trivial trivial nx_eq (ops_eq trivial trivial) a2 b2⟩
theorem Rp.isN {G : Hp} {v : V} {d : D} (h : Rp G v d) : sIsN d = .ok (.bool (decide (v = .non))) ∧ sNotN d = .ok (.bool (!decide (v = .non))) := by
  cases h <;> exact ⟨rfl, rfl⟩
theorem xisn {j : Nat} {p : Pos} (ha : XX S .b a fa) : XX S .e (.Compare a [.Is] [.Constant .none j p] pos) (fUn sIsN fa) :=
  let ⟨_, a1, a2⟩ := ha; ⟨_, pe_cmpR op_isN a1 pe_non (nomark _), fun H0 G0 σ H G ρ Q q w => by
    refine a2 H0 G0 σ H G ρ _ q (Wp.imp w.bind (fun x wx v H1 G1 s1 r1 => ?_) fun _ z => z)
    have e := (Rp.isN r1).1
    rw [e] at wx
    exact ⟨rfl, wx _ H1 G1 s1 (.bl _)⟩⟩
end
end Ct

namespace Ct
open PySem PySem.Spec PyProof.Rows L2

theorem RpL.atI {G : Hp} {vs : List V} {ds : List D} {i : Int} {d : D} (h : RpL G vs ds) (e : L2.atI ds i = some d) : ∃ v, L2.atI vs i = some v ∧ Rp G v d := by
  unfold L2.atI at e ⊢
  rw [← h.length] at e
  cases q : ixN vs.length i with
  | none => rw [q] at e; cases e
  | some j =>
    rw [q] at e
    exact h.get e
theorem nx_ix (x y : D) : NoX (sIx x y) := by
  unfold sIx
  split
  · split <;> first | exact noX_ok _ | exact noX_stuck
  · split <;> first | exact noX_ok _ | exact noX_stuck
  · split <;> first | exact noX_ok _ | exact noX_stuck
  · exact noX_stuck
theorem Rp.scr_inv {G : Hp} {v : V} {ds : List D} (h : Rp G v (.dict [(.bool true, .list ds)])) : ∃ a o xs, v = .ref a ∧ G a = some (.frz o (.lst xs)) ∧ RpL G xs ds := by
  cases h with
  | scr h hl => exact ⟨_, _, _, rfl, h, hl⟩
  | dct _ hk => cases hk
theorem RS.scr_inv {H G : Hp} {v : V} {ds : List D} (h : RS H G v (.dict [(.bool true, .list ds)])) : ∃ a o xs, v = .ref a ∧ G a = some (.frz o (.lst xs)) ∧ RpL G xs ds := by
  exact Rp.scr_inv h
theorem ops_ix {K : PySem.W.Frag} : OpS .s .e .e (fun x y H Q => rIxL K x y H Q ∨ rIxT K x y H Q) sIx := fun H G x y dx dy Q s hx hy w => by
  unfold sIx at w
  split at w
  · cases Rp.int_inv hy
    obtain ⟨p, xs, rfl, h, hl⟩ := hx
    split at w
    · rename_i e
      obtain ⟨v, e1, r⟩ := hl.atI e
      exact .inl ⟨p, xs, _, v, rfl, rfl, .of h, e1, wp_ok w _ H G (Step.refl s) r⟩
    · exact w.elim
  · cases Rp.int_inv hy
    obtain ⟨p, xs, rfl, h, hl⟩ := Rp.tup_inv hx
    split at w
    · rename_i e
      obtain ⟨v, e1, r⟩ := hl.atI e
      exact .inr ⟨p, xs, _, v, rfl, rfl, .of (s _ _ h), e1, wp_ok w _ H G (Step.refl s) r⟩
    · exact w.elim
  · cases Rp.int_inv hy
    obtain ⟨p, o, xs, rfl, h, hl⟩ := RS.scr_inv (H := H) hx
    split at w
    · rename_i e
      obtain ⟨v, e1, r⟩ := hl.atI e
      exact .inl ⟨p, xs, _, v, rfl, rfl, .inl (.inr ⟨o, s _ _ h⟩), e1, wp_ok w _ H G (Step.refl s) r⟩
    · exact w.elim
  · exact w.elim
theorem ops_ixb {K : PySem.W.Frag} : OpS .b .e .b (fun x y H Q => rIxL K x y H Q ∨ rIxT K x y H Q) sIx := fun H G x y dx dy Q s hx hy w => by
  unfold sIx at w
  split at w
  · cases Rp.int_inv hy
    obtain ⟨p, xs, rfl, h, hl⟩ := Rp.lst_inv hx
    split at w
    · rename_i e
      obtain ⟨v, e1, r⟩ := hl.atI e
      exact .inl ⟨p, xs, _, v, rfl, rfl, .of h, e1, wp_ok w _ H G (Step.refl s) r⟩
    · exact w.elim
  · cases Rp.int_inv hy
    obtain ⟨p, xs, rfl, h, hl⟩ := Rp.tup_inv hx
    split at w
    · rename_i e
      obtain ⟨v, e1, r⟩ := hl.atI e
      exact .inr ⟨p, xs, _, v, rfl, rfl, .of h, e1, wp_ok w _ H G (Step.refl s) r⟩
    · exact w.elim
  · cases Rp.int_inv hy
    obtain ⟨p, o, xs, rfl, h, hl⟩ := Rp.scr_inv hx
    split at w
    · rename_i e
      obtain ⟨v, e1, r⟩ := hl.atI e
      exact .inl ⟨p, xs, _, v, rfl, rfl, .inl (.inr ⟨o, h⟩), e1, wp_ok w _ H G (Step.refl s) r⟩
    · exact w.elim
  · exact w.elim

def aNil : Rho → Rs (List D) := fun _ => .ok []
def aCons (f : Rho → Rs D) (g : Rho → Rs (List D)) : Rho → Rs (List D) := fun ρ => (f ρ).bind fun d => (g ρ).bind fun ds => .ok (d :: ds)
def isEBa : Kd → Prop
  | .e => True
  | .b => True
  | _ => False
section
variable {S : Sx} {k : Kd} {t : TE} {ts : TA} {f : Rho → Rs D} {g : Rho → Rs (List D)}
theorem ta_nil (hk : isEBa k) : TAr S k tNil aNil := fun H0 G0 σ H G ρ Q q w => w [] H G (Step.refl q.st.sub) (by
  cases k with
  | e => exact .nil
  | b => exact .nil
  | s => exact hk.elim
  | o => exact hk.elim
  | m => exact hk.elim
  | d => exact hk.elim
  | i _ _ _ => exact hk.elim
  | w k => exact hk.elim)
theorem ta_cons (hk : isEBa k) (h1 : TV S k t f) (h2 : TAr S k ts g) : TAr S k (tCons t ts) (aCons f g) := fun H0 G0 σ H G ρ Q q w => by
  refine h1 H0 G0 σ H G ρ _ q (Wp.imp w.bind (fun x wx v H1 G1 s1 r1 => ?_) fun _ z => z)
  refine h2 H0 G0 σ H1 G1 ρ _ (q.step s1) (Wp.imp wx.bind (fun y wy u H2 G2 s2 r2 => ?_) fun e z => z.step s1)
  refine wy _ H2 G2 (s1.trans s2) ?_
  cases k with
  | e => exact .cons (Rp.mono s2.gg r1) r2
  | b => exact .cons (Rp.mono s2.hh r1) r2
  | s => exact hk.elim
  | o => exact hk.elim
  | m => exact hk.elim
  | d => exact hk.elim
  | i _ _ _ => exact hk.elim
  | w k => exact hk.elim
theorem xa_nil (hk : isEBa k) : XA S k [] aNil := ⟨_, pa_nil, ta_nil hk⟩
theorem xa_cons (hk : isEBa k) {e : Expr} {es : List Expr} (h1 : XX S k e f) (h2 : XA S k es g) (hs : starEach (e :: es) S.X.env = (false, eval e S.X.env) :: starEach es S.X.env := by rfl) : XA S k (e :: es) (aCons f g) :=
  let ⟨_, a1, a2⟩ := h1; let ⟨_, b1, b2⟩ := h2; ⟨_, pa_cons a1 b1 hs, ta_cons hk a2 b2⟩
theorem ae_nil : XA S .e [] aNil := xa_nil trivial
theorem ae_cons {e : Expr} {es : List Expr} (h1 : XX S .e e f) (h2 : XA S .e es g) (hs : starEach (e :: es) S.X.env = (false, eval e S.X.env) :: starEach es S.X.env := by rfl) : XA S .e (e :: es) (aCons f g) := xa_cons (k := .e) trivial h1 h2 hs
theorem ab_nil : XA S .b [] aNil := xa_nil trivial
theorem ab_cons {e : Expr} {es : List Expr} (h1 : XX S .b e f) (h2 : XA S .b es g) (hs : starEach (e :: es) S.X.env = (false, eval e S.X.env) :: starEach es S.X.env := by rfl) : XA S .b (e :: es) (aCons f g) := xa_cons (k := .b) trivial h1 h2 hs
end

def fTup (g : Rho → Rs (List D)) : Rho → Rs D := fun ρ => (g ρ).bind fun ds => if ds.length ≤ sizeLine then .ok (.tuple ds) else .stuck
def fLst (g : Rho → Rs (List D)) : Rho → Rs D := fun ρ => (g ρ).bind fun ds => if ds.length ≤ sizeLine then .ok (.list ds) else .stuck
section
variable {S : Sx} {es : List Expr} {g : Rho → Rs (List D)} {pos : Pos}
theorem xtup {x1 : Nat} (h : XA S .e es g) : XX S .e (.Tuple es x1 pos) (fTup g) :=
  let ⟨_, a1, a2⟩ := h; ⟨_, pe_tup a1, fun H0 G0 σ H G ρ Q q w => by
    refine a2 H0 G0 σ H G ρ _ q (Wp.imp w.bind (fun ds wd vs H1 G1 s1 r1 => ?_) fun _ z => z)
    split at wd
    · rename_i hl
      refine ⟨by rw [RpL.length r1]; exact hl, fun p hp => ?_⟩
      exact wd _ _ _ (s1.trans (Step.new s1.sub hp)) (.tup upd_same (RpL.mono (same_new (Same.free s1.sub hp)) r1))
    · exact wd.elim⟩
theorem xlst (h : XA S .e es g) : XX S .o (.List es pos) (fLst g) :=
  let ⟨_, a1, a2⟩ := h; ⟨_, pe_lst a1, fun H0 G0 σ H G ρ Q q w => by
    refine a2 H0 G0 σ H G ρ _ q (Wp.imp w.bind (fun ds wd vs H1 G1 s1 r1 => ?_) fun _ z => z)
    split at wd
    · rename_i hl
      refine ⟨by rw [RpL.length r1]; exact hl, fun p hp => ?_⟩
      exact wd _ _ _ (s1.trans (Step.newO s1.sub hp)) ⟨p, vs, ds, rfl, rfl, upd_same, Same.free s1.hh hp, Same.free s1.sub hp, r1⟩
    · exact wd.elim⟩
end

def ClS (ki k : Kd) (r : List V → Hp → VK → Prop) (o : List D → Rs D) : Prop := ∀ H G vs ds (Q : VK), Same G H → RKL ki H G vs ds → Wp (o ds) (fun d => ∀ v H' G', Step H G H' G' → RK k H H' G' v d → Q v H') (fun _ => False) → r vs H Q
def fCl (o : List D → Rs D) (g : Rho → Rs (List D)) : Rho → Rs D := fun ρ => (g ρ).bind o
section
variable {S : Sx} {ki k : Kd} {r : List V → Hp → VK → Prop} {o : List D → Rs D} {t : TA} {g : Rho → Rs (List D)}
theorem RKL.carry {H1 G1 H2 G2 : Hp} {v : List V} {d : List D} (s : Step H1 G1 H2 G2) (h : RKL ki H1 G1 v d) : RKL ki H2 G2 v d := by
  cases ki with
  | e => exact RpL.mono s.gg h
  | s => exact RpL.mono s.hh h
  | b => exact RpL.mono s.hh h
  | o => exact RpL.mono s.hh h
  | m => exact RpL.mono s.hh h
  | d => exact RpL.mono s.hh h
  | i _ _ _ => exact RpL.mono s.hh h
  | w k => exact RpL.mono s.hh h
theorem tv_cb (nx : ∀ x, NoX (o x)) (ho : ClS ki k r o) (h : TAr S ki t g) : TV S k (tCB r t) (fCl o g) := fun H0 G0 σ H G ρ Q q w => by
  refine h H0 G0 σ H G ρ _ q (Wp.imp w.bind (fun x wx v H1 G1 s1 r1 => ?_) fun _ z => z)
  refine ho H1 G1 v x Q s1.sub r1 (Wp.imp (Wp.noX (E' := fun _ => False) (nx x) wx) (fun d qd v' H' G' s3 r3 => qd v' H' G' (s1.trans s3) (RK.anti s1.hh r3)) fun _ z => z)
end
def o1 (o : D → Rs D) : List D → Rs D
  | [x] => o x
  | _ => .stuck
def o2 (o : D → D → Rs D) : List D → Rs D
  | [x, y] => o x y
  | _ => .stuck
theorem nx_o1 {o : D → Rs D} (h : ∀ x, NoX (o x)) (l : List D) : NoX (o1 o l) := by
  unfold o1
  split
  · exact h _
  · exact noX_stuck
theorem nx_o2 {o : D → D → Rs D} (h : ∀ x y, NoX (o x y)) (l : List D) : NoX (o2 o l) := by
  unfold o2
  split
  · exact h _ _
  · exact noX_stuck
theorem cls1 {ki k : Kd} {r : List V → Hp → VK → Prop} {o : D → Rs D} (h : ∀ H G v d (Q : VK), Same G H → Rp H v d → (ki = .e → Rp G v d) → Wp (o d) (fun d => ∀ v H' G', Step H G H' G' → RK k H H' G' v d → Q v H') (fun _ => False) → r [v] H Q) : ClS ki k r (o1 o) := fun H G vs ds Q s hx w => by
  unfold o1 at w
  split at w
  · rename_i x
    have hh : RpL H vs [x] := by
      cases ki with
      | e => exact RpL.mono s hx
      | s => exact hx
      | b => exact hx
      | o => exact hx
      | m => exact hx
      | d => exact hx
      | i _ _ _ => exact hx
      | w k => exact hx
    cases hh with
    | cons r1 r2 =>
      cases r2
      refine h H G _ _ Q s r1 (fun e => ?_) w
      subst e
      cases hx with
      | cons a b => exact a
  · exact w.elim
theorem cls2 {k : Kd} {r : List V → Hp → VK → Prop} {o : D → D → Rs D} (h : ∀ H G v u d e (Q : VK), Same G H → Rp H v d → Rp H u e → Wp (o d e) (fun d => ∀ v H' G', Step H G H' G' → RK k H H' G' v d → Q v H') (fun _ => False) → r [v, u] H Q) : ClS .b k r (o2 o) := fun H G vs ds Q s hx w => by
  unfold o2 at w
  split at w
  · cases hx with
    | cons r1 r2 =>
      cases r2 with
      | cons r2 r3 =>
        cases r3
        exact h H G _ _ _ _ Q s r1 r2 w
  · exact w.elim
theorem Rp.list_len {K : PySem.W.Frag} {H : Hp} {v : V} {d : D} {n : D} (h : Rp H v d) (e : sLen d = .ok n) : ∃ p ys, v = .ref p ∧ (SqL K H p ys ∨ SqT K H p ys) ∧ n = .int (ys.length : Int) := by
  unfold sLen at e
  split at e
  · cases e
    obtain ⟨p, xs, rfl, h, hl⟩ := Rp.lst_inv h
    exact ⟨p, xs, rfl, .inl (.of h), by rw [hl.length]⟩
  · cases e
    obtain ⟨p, xs, rfl, h, hl⟩ := Rp.tup_inv h
    exact ⟨p, xs, rfl, .inr (.of h), by rw [hl.length]⟩
  · cases e
    obtain ⟨p, o, xs, rfl, h, hl⟩ := Rp.scr_inv h
    exact ⟨p, xs, rfl, .inl (.inl (.inr ⟨o, h⟩)), by rw [hl.length]⟩
  · cases e
theorem nx_len (x : D) : NoX (sLen x) := by unfold sLen; split <;> first | exact noX_ok _ | exact noX_stuck
theorem nx_abs (x : D) : NoX (sAbs x) := by unfold sAbs; split <;> first | exact noX_ok _ | exact noX_stuck
theorem nx_int (x : D) : NoX (sInt x) := by unfold sInt; split <;> first | exact noX_ok _ | exact noX_stuck
theorem nx_min2 (x y : D) : NoX (sMin2 x y) := by unfold sMin2; split <;> first | exact noX_ok _ | exact noX_stuck
theorem nx_max2 (x y : D) : NoX (sMax2 x y) := by unfold sMax2; split <;> first | exact noX_ok _ | exact noX_stuck
theorem nx_sum (x : D) : NoX (sSum x) := by
  unfold sSum
  split
  · split <;> first | exact noX_ok _ | exact noX_stuck
  · exact noX_stuck
theorem nx_min (x : D) : NoX (sMin x) := by
  unfold sMin
  split
  · split <;> first | exact noX_ok _ | exact noX_stuck
  · exact noX_stuck
section
variable {S : Sx} {e e2 : Expr} {f f2 : Rho → Rs D} {p pos : Pos}
theorem xix (ha : XX S .s e f) (hb : XX S .e e2 f2) (hs : PlainIx e2 := by exact fun _ _ => rfl) : XX S .e (.Subscript e e2 pos) (fBin sIx f f2) :=
  let ⟨_, a1, a2⟩ := ha; let ⟨_, b1, b2⟩ := hb; ⟨_, pe_ix (ix_list.or ix_tup) a1 b1 hs, tv_op (ki := .s) (kj := .e) trivial trivial nx_ix ops_ix a2 b2⟩
theorem xixb (ha : XX S .b e f) (hb : XX S .e e2 f2) (hs : PlainIx e2 := by exact fun _ _ => rfl) : XX S .b (.Subscript e e2 pos) (fBin sIx f f2) :=
  let ⟨_, a1, a2⟩ := ha; let ⟨_, b1, b2⟩ := hb; ⟨_, pe_ix (ix_list.or ix_tup) a1 b1 hs, tv_op (ki := .b) (kj := .e) trivial trivial nx_ix ops_ixb a2 b2⟩

theorem xlen {g : Rho → Rs (List D)} (hm : S.X.mg "len" = none) (h : XA S .b [e] g) (hg : Gl S.X "len" := by rfl) (he : starEach (e :: []) S.X.env = (false, eval e S.X.env) :: starEach [] S.X.env := by rfl) (hpl : (backTo pos (starEach [] S.X.env)).any (·.1) = false := by rfl) :
    XX S .e (.Call (.Name "len" p) [e] [] pos) (fCl (o1 sLen) g) :=
  let ⟨_, a1, a2⟩ := h
  ⟨_, pe_callB call_len_seq hg hm (by decide +kernel) a1 (he := he) (hpl := hpl), tv_cb (ki := .b) (nx_o1 nx_len) (cls1 fun H G v d Q s r _ w => by
    cases e : sLen d with
    | ok n =>
      obtain ⟨p, ys, rfl, a, rfl⟩ := r.list_len e
      rw [e] at w
      exact ⟨p, ys, rfl, a, wp_ok w _ H G (Step.refl s) (.int _)⟩
    | exc z => exact absurd e (nx_len d z)
    | stuck => rw [e] at w; exact w.elim) a2⟩
theorem xabs {g : Rho → Rs (List D)} (hm : S.X.mg "abs" = none) (h : XA S .b [e] g) (hg : Gl S.X "abs" := by rfl) (he : starEach (e :: []) S.X.env = (false, eval e S.X.env) :: starEach [] S.X.env := by rfl) (hpl : (backTo pos (starEach [] S.X.env)).any (·.1) = false := by rfl) :
    XX S .e (.Call (.Name "abs" p) [e] [] pos) (fCl (o1 sAbs) g) :=
  let ⟨_, a1, a2⟩ := h
  ⟨_, pe_callB call_abs hg hm (by decide +kernel) a1 (he := he) (hpl := hpl), tv_cb (ki := .b) (nx_o1 nx_abs) (cls1 fun H G v d Q s r _ w => by
    unfold sAbs at w
    split at w
    · cases Rp.int_inv r
      exact ⟨_, rfl, wp_ok w _ H G (Step.refl s) (.int _)⟩
    · exact w.elim) a2⟩
theorem xint {g : Rho → Rs (List D)} (hm : S.X.mg "int" = none) (h : XA S .b [e] g) (hg : Gl S.X "int" := by rfl) (he : starEach (e :: []) S.X.env = (false, eval e S.X.env) :: starEach [] S.X.env := by rfl) (hpl : (backTo pos (starEach [] S.X.env)).any (·.1) = false := by rfl) :
    XX S .e (.Call (.Name "int" p) [e] [] pos) (fCl (o1 sInt) g) :=
  let ⟨_, a1, a2⟩ := h
  ⟨_, pe_callTy call_int1 hg hm (by decide +kernel) a1 (he := he) (hpl := hpl), tv_cb (ki := .b) (nx_o1 nx_int) (cls1 fun H G v d Q s r _ w => by
    unfold sInt at w
    split at w
    · cases Rp.int_inv r
      exact .inl ⟨_, rfl, wp_ok w _ H G (Step.refl s) (.int _)⟩
    · cases Rp.bl_inv r
      exact .inr ⟨_, rfl, wp_ok w _ H G (Step.refl s) (.int _)⟩
    · exact w.elim) a2⟩
theorem xmin2 {g : Rho → Rs (List D)} (hc : S.X.calm = true) (hm : S.X.mg "min" = none) (h : XA S .b [e, e2] g) (hg : Gl S.X "min" := by rfl) (he : starEach (e :: [e2]) S.X.env = (false, eval e S.X.env) :: starEach [e2] S.X.env := by rfl) (hpl : (backTo pos (starEach [e2] S.X.env)).any (·.1) = false := by rfl) :
    XX S .e (.Call (.Name "min" p) [e, e2] [] pos) (fCl (o2 sMin2) g) :=
  let ⟨_, a1, a2⟩ := h
  ⟨_, pe_callB (call_min2 hc) hg hm (by decide +kernel) a1 (he := he) (hpl := hpl), tv_cb (ki := .b) (nx_o2 nx_min2) (cls2 fun H G v u d e Q s r r' w => by
    unfold sMin2 at w
    split at w
    · cases Rp.int_inv r
      cases Rp.int_inv r'
      exact ⟨_, _, rfl, wp_ok w _ H G (Step.refl s) (.int _)⟩
    · exact w.elim) a2⟩
theorem xmax2 {g : Rho → Rs (List D)} (hc : S.X.calm = true) (hm : S.X.mg "max" = none) (h : XA S .b [e, e2] g) (hg : Gl S.X "max" := by rfl) (he : starEach (e :: [e2]) S.X.env = (false, eval e S.X.env) :: starEach [e2] S.X.env := by rfl) (hpl : (backTo pos (starEach [e2] S.X.env)).any (·.1) = false := by rfl) :
    XX S .e (.Call (.Name "max" p) [e, e2] [] pos) (fCl (o2 sMax2) g) :=
  let ⟨_, a1, a2⟩ := h
  ⟨_, pe_callB (call_max2 hc) hg hm (by decide +kernel) a1 (he := he) (hpl := hpl), tv_cb (ki := .b) (nx_o2 nx_max2) (cls2 fun H G v u d e Q s r r' w => by
    unfold sMax2 at w
    split at w
    · cases Rp.int_inv r
      cases Rp.int_inv r'
      exact ⟨_, _, rfl, wp_ok w _ H G (Step.refl s) (.int _)⟩
    · exact w.elim) a2⟩
theorem xsum {g : Rho → Rs (List D)} (hc : S.X.calm = true) (hm : S.X.mg "sum" = none) (h : XA S .b [e] g) (hg : Gl S.X "sum" := by rfl) (he : starEach (e :: []) S.X.env = (false, eval e S.X.env) :: starEach [] S.X.env := by rfl) (hpl : (backTo pos (starEach [] S.X.env)).any (·.1) = false := by rfl) :
    XX S .e (.Call (.Name "sum" p) [e] [] pos) (fCl (o1 sSum) g) :=
  let ⟨_, a1, a2⟩ := h
  ⟨_, pe_callB (cr_sum hc) hg hm (by decide +kernel) a1 (he := he) (hpl := hpl), tv_cb (ki := .b) (nx_o1 nx_sum) (cls1 fun H G v d Q s r _ w => by
    unfold sSum at w
    split at w
    · split at w
      · rename_i ds ns he
        cases intsD_eq he
        obtain ⟨p, xs, rfl, h, hl⟩ := Rp.lst_inv r
        cases hl.ints
        exact ⟨p, ns, rfl, .of h, wp_ok w _ H G (Step.refl s) (.int _)⟩
      · exact w.elim
    · exact w.elim) a2⟩
theorem lmin_eq {ns : List Int} {m : Int} (h : m ∈ ns) (h2 : ∀ y ∈ ns, m ≤ y) : lmin ns = m := by
  have a := lmin_le h
  have b := h2 _ (lmin_mem (by intro z; rw [z] at h; cases h))
  omega
theorem xmin {g : Rho → Rs (List D)} (hc : S.X.calm = true) (hm : S.X.mg "min" = none) (h : XA S .b [e] g) (hg : Gl S.X "min" := by rfl) (he : starEach (e :: []) S.X.env = (false, eval e S.X.env) :: starEach [] S.X.env := by rfl) (hpl : (backTo pos (starEach [] S.X.env)).any (·.1) = false := by rfl) :
    XX S .e (.Call (.Name "min" p) [e] [] pos) (fCl (o1 sMin) g) :=
  let ⟨_, a1, a2⟩ := h
  ⟨_, pe_callB (cr_min hc) hg hm (by decide +kernel) a1 (he := he) (hpl := hpl), tv_cb (ki := .b) (nx_o1 nx_min) (cls1 fun H G v d Q s r _ w => by
    unfold sMin at w
    split at w
    · split at w
      · rename_i ds n ns he
        cases intsD_eq he
        obtain ⟨p, xs, rfl, h, hl⟩ := Rp.lst_inv r
        cases hl.ints
        refine ⟨p, n :: ns, rfl, .of h, Nat.succ_pos _, fun m h1 h2 => ?_⟩
        rw [← lmin_eq h1 h2]
        exact wp_ok w _ H G (Step.refl s) (.int _)
      · exact w.elim
    · exact w.elim) a2⟩
theorem xlist (hm : S.X.mg "list" = none) (h : XX S .s e f) (hg : Gl S.X "list" := by rfl) (he : starEach (e :: []) S.X.env = (false, eval e S.X.env) :: starEach [] S.X.env := by rfl) (hpl : (backTo pos (starEach [] S.X.env)).any (·.1) = false := by rfl) :
    XX S .o (.Call (.Name "list" p) [e] [] pos) (fUn sList f) :=
  let ⟨_, a1, a2⟩ := h
  ⟨_, pe_callTy call_list_of hg hm (by decide +kernel) (pa_cons a1 pa_nil he) (he := he) (hpl := hpl), fun H0 G0 σ H G ρ Q q w => by
    refine a2 H0 G0 σ H G ρ _ q (Wp.imp w.bind (fun d wd v H1 G1 s1 r1 => ?_) fun _ z => z)
    unfold sList at wd
    split at wd
    · obtain ⟨p, xs, rfl, h, hl⟩ := r1
      refine ⟨p, xs, rfl, .inl (.of h), fun n hn => ?_⟩
      exact wp_ok wd _ _ G1 (s1.trans (Step.newO s1.sub hn)) ⟨n, xs, _, rfl, rfl, upd_same, Same.free s1.hh hn, Same.free s1.sub hn, hl⟩
    · obtain ⟨p, xs, rfl, h, hl⟩ := Rp.tup_inv r1
      refine ⟨p, xs, rfl, .inr (.of (s1.sub _ _ h)), fun n hn => ?_⟩
      exact wp_ok wd _ _ G1 (s1.trans (Step.newO s1.sub hn)) ⟨n, xs, _, rfl, rfl, upd_same, Same.free s1.hh hn, Same.free s1.sub hn, hl⟩
    · exact wd.elim⟩
end
end Ct

namespace Ct
open PySem PySem.Spec PyProof.Rows L2

def toB (f : Rho → Rs D) : Rho → Rs Bool := fun ρ => (f ρ).bind fun d => match d with
  | .bool b => .ok b
  | _ => .stuck
def toT (f : Rho → Rs D) : Rho → Rs Bool := fun ρ => (f ρ).bind fun d => match d with
  | .none => .ok false
  | .bool b => .ok b
  | .int i => .ok (i != 0)
  | .list ds => .ok (!ds.isEmpty)
  | .tuple ds => .ok (!ds.isEmpty)
  | _ => .stuck
def fNot (f : Rho → Rs Bool) : Rho → Rs Bool := fun ρ => (f ρ).bind fun b => .ok (!b)
def fAnd (f g : Rho → Rs Bool) : Rho → Rs Bool := fun ρ => (f ρ).bind fun b => if b = true then g ρ else .ok false
def fOr (f g : Rho → Rs Bool) : Rho → Rs Bool := fun ρ => (f ρ).bind fun b => if b = true then .ok true else g ρ
def fAndV (f g : Rho → Rs D) : Rho → Rs D := fun ρ => (toB f ρ).bind fun b => if b = true then g ρ else .ok (.bool false)
def fOrV (f g : Rho → Rs D) : Rho → Rs D := fun ρ => (toB f ρ).bind fun b => if b = true then .ok (.bool true) else g ρ
def fNotV (f : Rho → Rs D) : Rho → Rs D := fun ρ => (toB f ρ).bind fun b => .ok (.bool (!b))
def fIfE (c : Rho → Rs Bool) (f g : Rho → Rs D) : Rho → Rs D := fun ρ => (c ρ).bind fun b => if b = true then f ρ else g ρ
section
variable {S : Sx} {e a b : Expr} {rest : List Expr} {f g : Rho → Rs D} {c c' : Rho → Rs Bool} {pos : Pos} {t : TE} {tt tu : TT}
theorem tb_of {k : Kd} (h : TV S .b t f) : TB S (fun σ H Q => t σ H fun x H' => ∃ k, x = .bl k ∧ Q k H') (toB f) := fun H0 G0 σ H G ρ Q q w => by
  refine h H0 G0 σ H G ρ _ q (Wp.imp w.bind (fun d wd v H1 G1 s1 r1 => ?_) fun _ z => z)
  cases d with
  | bool k =>
    cases Rp.bl_inv r1
    exact ⟨k, rfl, wp_ok wd _ _ s1⟩
  | _ => exact wd.elim
theorem tlt {fa fb : Rho → Rs D} (ha : XX S .e a fa) (hb : XX S .e b fb) : XT S (.Compare a [.Lt] [b] pos) (toB (fBin sLt fa fb)) :=
  let ⟨_, a1, a2⟩ := ha; let ⟨_, b1, b2⟩ := hb; ⟨_, pt_cmpR op_lt a1 b1 (nomark _), tb_of (k := .b) (TV.e_b (tv_op (ki := .e) (kj := .e) trivial trivial (two_ints t_lt (fun _ _ => rfl)) (ops_int (gv := fun i j => .bl (decide (i < j))) (fun i j H Q q => ⟨i, j, rfl, rfl, q⟩) (fun _ _ _ => .bl _) (fun _ _ => rfl) t_lt) a2 b2))⟩
theorem tgt {fa fb : Rho → Rs D} (ha : XX S .e a fa) (hb : XX S .e b fb) : XT S (.Compare a [.Gt] [b] pos) (toB (fBin sGt fa fb)) :=
  let ⟨_, a1, a2⟩ := ha; let ⟨_, b1, b2⟩ := hb; ⟨_, pt_cmpR op_gt a1 b1 (nomark _), tb_of (k := .b) (TV.e_b (tv_op (ki := .e) (kj := .e) trivial trivial (two_ints t_gt (fun _ _ => rfl)) (ops_int (gv := fun i j => .bl (decide (j < i))) (fun i j H Q q => ⟨i, j, rfl, rfl, q⟩) (fun _ _ _ => .bl _) (fun _ _ => rfl) t_gt) a2 b2))⟩
theorem tge {fa fb : Rho → Rs D} (ha : XX S .e a fa) (hb : XX S .e b fb) : XT S (.Compare a [.GtE] [b] pos) (toB (fBin sGe fa fb)) :=
  let ⟨_, a1, a2⟩ := ha; let ⟨_, b1, b2⟩ := hb; ⟨_, pt_cmpR op_ge a1 b1 (nomark _), tb_of (k := .b) (TV.e_b (tv_op (ki := .e) (kj := .e) trivial trivial (two_ints t_ge (fun _ _ => rfl)) (ops_int (gv := fun i j => .bl (decide (j ≤ i))) (fun i j H Q q => ⟨i, j, rfl, rfl, q⟩) (fun _ _ _ => .bl _) (fun _ _ => rfl) t_ge) a2 b2))⟩
theorem teq {fa fb : Rho → Rs D} (hu : S.X.A.units + 64 < cLine) (ha : XX S .b a fa) (hb : XX S .b b fb) : XT S (.Compare a [.Eq] [b] pos) (toB (fBin sEq fa fb)) :=
  let ⟨_, a1, a2⟩ := ha; let ⟨_, b1, b2⟩ := hb; ⟨_, pt_cmpR (opor op_eq (op_eqD hu)) a1 b1 (nomark _), tb_of (k := .b) (TV.e_b (tv_op (ki := .b) (kj := .b) trivial trivial nx_eq (ops_eq trivial trivial) a2 b2))⟩
theorem tne {fa fb : Rho → Rs D} (hu : S.X.A.units + 64 < cLine) (ha : XX S .b a fa) (hb : XX S .b b fb) : XT S (.Compare a [.NotEq] [b] pos) (toB (fBin sNe fa fb)) :=
  let ⟨_, a1, a2⟩ := ha; let ⟨_, b1, b2⟩ := hb; ⟨_, pt_cmpR (opor op_ne (op_neD hu)) a1 b1 (nomark _), tb_of (k := .b) (TV.e_b (tv_op (ki := .b) (kj := .b) trivial trivial nx_ne (ops_ne trivial trivial) a2 b2))⟩
theorem tisn {j : Nat} {p : Pos} {fa : Rho → Rs D} (ha : XX S .b a fa) : XT S (.Compare a [.Is] [.Constant .none j p] pos) (toB (fUn sIsN fa)) :=
  let ⟨_, a1, a2⟩ := ha; ⟨_, pt_cmpR op_isN a1 pe_non (nomark _), tb_of (k := .b) (TV.e_b (t := tOp _ _ _) fun H0 G0 σ H G ρ Q q w => by
    refine a2 H0 G0 σ H G ρ _ q (Wp.imp w.bind (fun x wx v H1 G1 s1 r1 => ?_) fun _ z => z)
    have e := (Rp.isN r1).1
    rw [e] at wx
    exact ⟨rfl, wx _ H1 G1 s1 (.bl _)⟩)⟩
theorem tnotn {j : Nat} {p : Pos} {fa : Rho → Rs D} (ha : XX S .b a fa) : XT S (.Compare a [.IsNot] [.Constant .none j p] pos) (toB (fUn sNotN fa)) :=
  let ⟨_, a1, a2⟩ := ha; ⟨_, pt_cmpR op_notN a1 pe_non (nomark _), tb_of (k := .b) (TV.e_b (t := tOp _ _ _) fun H0 G0 σ H G ρ Q q w => by
    refine a2 H0 G0 σ H G ρ _ q (Wp.imp w.bind (fun x wx v H1 G1 s1 r1 => ?_) fun _ z => z)
    have e := (Rp.isN r1).2
    rw [e] at wx
    exact ⟨rfl, wx _ H1 G1 s1 (.bl _)⟩)⟩
theorem tval (h : XX S .b e f) (he : ∀ whole, isTrue e S.X.env whole = (do let v ← whole; standAt e.pos; holding [v] (truthy v)) := by intro _; rfl) : XT S e (toB f) :=
  let ⟨_, a1, a2⟩ := h; ⟨_, pt_val a1 he, tb_of (k := .b) a2⟩
theorem tnot (h : XT S a c) : XT S (.UnaryOp .Not a pos) (fNot c) :=
  let ⟨_, a1, a2⟩ := h; ⟨_, pt_not a1, fun H0 G0 σ H G ρ Q q w => by
    exact a2 H0 G0 σ H G ρ _ q (Wp.imp w.bind (fun d wd H1 G1 s1 => wp_ok wd _ _ s1) fun _ z => z)⟩
def XW (S : Sx) (e : Expr) (f : Rho → Rs Bool) : Prop := ∃ t, PW S.X e t ∧ TB S t f
theorem XW.pt (h : XW S e c) : XT S e c := let ⟨_, a1, a2⟩ := h; ⟨_, a1.pt, a2⟩
theorem wand1 (h : XT S a c) : XW S (.BoolOp .And [a] pos) c := let ⟨_, a1, a2⟩ := h; ⟨_, pw_and1 a1, a2⟩
theorem wor1 (h : XT S a c) : XW S (.BoolOp .Or [a] pos) c := let ⟨_, a1, a2⟩ := h; ⟨_, pw_or1 a1, a2⟩
theorem tb_and (h1 : TB S tt c) (h2 : TB S tu c') : TB S (tAnd tt tu) (fAnd c c') := fun H0 G0 σ H G ρ Q q w => by
  refine h1 H0 G0 σ H G ρ _ q (Wp.imp w.bind (fun d wd H1 G1 s1 => ?_) fun _ z => z)
  cases d with
  | true => exact iteT (h2 H0 G0 σ H1 G1 ρ Q (q.step s1) (Wp.imp wd (fun d q H' G' s => q H' G' (s1.trans s)) fun e z => z.step s1))
  | false => exact iteF (wp_ok wd _ _ s1)
theorem tb_or (h1 : TB S tt c) (h2 : TB S tu c') : TB S (tOr tt tu) (fOr c c') := fun H0 G0 σ H G ρ Q q w => by
  refine h1 H0 G0 σ H G ρ _ q (Wp.imp w.bind (fun d wd H1 G1 s1 => ?_) fun _ z => z)
  cases d with
  | true => exact iteT (wp_ok wd _ _ s1)
  | false => exact iteF (h2 H0 G0 σ H1 G1 ρ Q (q.step s1) (Wp.imp wd (fun d q H' G' s => q H' G' (s1.trans s)) fun e z => z.step s1))
theorem wand (h1 : XT S a c) (h2 : XW S (.BoolOp .And (b :: rest) pos) c') : XW S (.BoolOp .And (a :: b :: rest) pos) (fAnd c c') :=
  let ⟨_, a1, a2⟩ := h1; let ⟨_, b1, b2⟩ := h2; ⟨_, pw_and a1 b1, tb_and a2 b2⟩
theorem wor (h1 : XT S a c) (h2 : XW S (.BoolOp .Or (b :: rest) pos) c') : XW S (.BoolOp .Or (a :: b :: rest) pos) (fOr c c') :=
  let ⟨_, a1, a2⟩ := h1; let ⟨_, b1, b2⟩ := h2; ⟨_, pw_or a1 b1, tb_or a2 b2⟩
theorem xone {op : BoolOp} {k : Kd} (h : XX S k a f) : XX S k (.BoolOp op [a] pos) f := let ⟨_, a1, a2⟩ := h; ⟨_, pe_one a1, a2⟩
theorem xand (h1 : XX S .e a f) (h2 : XX S .e (.BoolOp .And (b :: rest) pos) g) : XX S .e (.BoolOp .And (a :: b :: rest) pos) (fAndV f g) :=
  let ⟨_, a1, a2⟩ := h1; let ⟨_, b1, b2⟩ := h2; ⟨_, pe_and a1 b1, fun H0 G0 σ H G ρ Q q w => by
    refine a2 H0 G0 σ H G ρ _ q (Wp.imp w.bind.bind (fun d wd v H1 G1 s1 r1 => ?_) fun _ z => z)
    cases d with
    | bool k =>
      cases Rp.bl_inv r1
      refine ⟨k, rfl, ?_⟩
      have wd := wp_ok wd
      cases k with
      | true => exact iteT (b2 H0 G0 σ H1 G1 ρ Q (q.step s1) (Wp.imp wd (fun d q v H' G' s r => q v H' G' (s1.trans s) r) fun e z => z.step s1))
      | false => exact iteF (wp_ok wd _ _ _ s1 (.bl _))
    | _ => exact wd.elim⟩
theorem xnot (h1 : XX S .e a f) : XX S .e (.UnaryOp .Not a pos) (fNotV f) :=
  let ⟨_, a1, a2⟩ := h1; ⟨_, pe_not a1, fun H0 G0 σ H G ρ Q q w => by
    refine a2 H0 G0 σ H G ρ _ q (Wp.imp w.bind.bind (fun d wd v H1 G1 s1 r1 => ?_) fun _ z => z)
    cases d with
    | bool k =>
      cases Rp.bl_inv r1
      exact ⟨k, rfl, wp_ok (E := ExW S σ H G) wd _ _ _ s1 (.bl _)⟩
    | _ => exact wd.elim⟩
end

section
variable {S : Sx} {a b : Expr} {fa fb : Rho → Rs D} {pos : Pos}
end

def fPart (f : Option (Rho → Rs D)) : Rho → Rs (Option Int) := match f with
  | none => fun _ => .ok none
  | some f => fun ρ => (f ρ).bind fun d => match d with
    | .int i => .ok (some i)
    | _ => .stuck
def fSlice (f : Rho → Rs D) (lo hi : Rho → Rs (Option Int)) : Rho → Rs D := fun ρ => (f ρ).bind fun d => (lo ρ).bind fun l => (hi ρ).bind fun h => match d with
  | .list ds => .ok (.list (cutD ds l h))
  | _ => .stuck
def XO (S : Sx) (e : Option Expr) (f : Rho → Rs (Option Int)) : Prop := ∃ t, PO S.X e t ∧ ∀ H0 G0 σ H G ρ (Q : Option Int → Hp → Prop), Ok S H0 G0 σ H G ρ → Wp (f ρ) (fun d => ∀ H' G', Step H G H' G' → Q d H') (ExW S σ H G) → t σ H Q
theorem RpL.cut {G : Hp} {vs : List V} {ds : List D} (h : RpL G vs ds) (lo hi : Option Int) : RpL G (cutV vs lo hi) (cutD ds lo hi) := by
  unfold cutV cutD
  rw [h.length]
  exact (h.drop _).take _
section
variable {S : Sx} {e a : Expr} {f g : Rho → Rs D} {lo hi : Option Expr} {fl fh : Rho → Rs (Option Int)} {pos p2 : Pos}
theorem xo_none : XO S none (fPart none) := ⟨_, po_none, fun H0 G0 σ H G ρ Q q w => wp_ok w _ G (Step.refl q.st.sub)⟩
theorem xo_some (h : XX S .e a g) : XO S (some a) (fPart (some g)) :=
  let ⟨_, a1, a2⟩ := h; ⟨_, po_some a1, fun H0 G0 σ H G ρ Q q w => by
    refine a2 H0 G0 σ H G ρ _ q (Wp.imp w.bind (fun d wd v H1 G1 s1 r1 => ?_) fun _ z => z)
    cases d with
    | int i => cases Rp.int_inv r1; exact ⟨i, rfl, wp_ok wd _ _ s1⟩
    | _ => exact wd.elim⟩
theorem xslice (h : XX S .s e f) (hl : XO S lo fl) (hh : XO S hi fh) : XX S .o (.Subscript e (.Slice lo hi none p2) pos) (fSlice f fl fh) :=
  let ⟨_, a1, a2⟩ := h; let ⟨_, b1, b2⟩ := hl; let ⟨_, c1, c2⟩ := hh; ⟨_, pe_slice sl_list a1 b1 c1, fun H0 G0 σ H G ρ Q q w => by
    refine a2 H0 G0 σ H G ρ _ q (Wp.imp w.bind (fun d wd v H1 G1 s1 r1 => ?_) fun _ z => z)
    refine b2 H0 G0 σ H1 G1 ρ _ (q.step s1) (Wp.imp wd.bind (fun l wl H2 G2 s2 => ?_) fun e z => z.step s1)
    refine c2 H0 G0 σ H2 G2 ρ _ (q.step (s1.trans s2)) (Wp.imp wl.bind (fun u wu H3 G3 s3 => ?_) fun e z => z.step (s1.trans s2))
    cases d with
    | list ds =>
      have r1 : RS H1 G1 v (.list ds) := r1
      obtain ⟨p, xs, rfl, hp, hl⟩ : ∃ p vs, v = .ref p ∧ H3 p = some (.lst vs) ∧ RpL G3 vs ds := RS.step (s2.trans s3) r1
      have st := s1.trans (s2.trans s3)
      exact ⟨p, xs, rfl, .of hp, fun n hn => wp_ok wu _ _ G3 (st.trans (Step.newO st.sub hn)) ⟨n, _, _, rfl, rfl, upd_same, Same.free st.hh hn, Same.free st.sub hn, hl.cut l u⟩⟩
    | _ => exact wu.elim⟩
end
end Ct

namespace Ct
open PySem PySem.Spec PyProof.Rows L2

inductive Out where
  | nx (ρ : Rho)
  | ret (d : D)
  | brk (ρ : Rho)
  | ct (ρ : Rho)
  | exc (e : Er) (ρ : Rho)
  | stuck
def OutP (S : Sx) (kd : Kd) (H0 G0 : Hp) (N : Ends) : Out → Prop
  | .nx ρ => ∀ σ H G, Ok S H0 G0 σ H G ρ → N.nx σ H
  | .brk ρ => ∀ σ H G, Ok S H0 G0 σ H G ρ → N.bk σ H
  | .ct ρ => ∀ σ H G, Ok S H0 G0 σ H G ρ → N.ct σ H
  | .ret d => ∀ v H G, Step H0 G0 H G → RK kd H0 H G v d → N.rt v H
  | .exc e ρ => ∀ c dd σ H G, Ok S H0 G0 σ H G ρ → ErR S.ca S.cf G e c dd → S.W c dd σ H
  | .stuck => False
def TSt (S : Sx) (kd : Kd) (t : TS) (g : Rho → Out) : Prop := ∀ H0 G0 σ H G ρ (N : Ends), Ok S H0 G0 σ H G ρ → OutP S kd H0 G0 N (g ρ) → t N σ H
def XS (S : Sx) (kd : Kd) (st : Stmt) (g : Rho → Out) : Prop := ∃ t, PS S.X st t ∧ TSt S kd t g
def XSs (S : Sx) (kd : Kd) (st : List Stmt) (g : Rho → Out) : Prop := ∃ t, PSs S.X st t ∧ TSt S kd t g
def Rs.out {α : Type} (r : Rs α) (ρ : Rho) (k : α → Out) : Out := match r with
  | .ok a => k a
  | .exc e => .exc e ρ
  | .stuck => .stuck
theorem wp_out {S : Sx} {kd : Kd} {H0 G0 H G : Hp} {σ : St} {ρ : Rho} {N : Ends} {α : Type} {r : Rs α} {k : α → Out} (q : Ok S H0 G0 σ H G ρ) (h : OutP S kd H0 G0 N (r.out ρ k)) : Wp r (fun a => OutP S kd H0 G0 N (k a)) (ExW S σ H G) := by
  cases r with
  | ok a => exact h
  | exc e => exact fun c dd H' G' s er => h c dd σ H' G' (q.step s) er
  | stuck => exact h

def fSkip : Rho → Out := fun ρ => .nx ρ
def fSeq (g h : Rho → Out) : Rho → Out := fun ρ => match g ρ with
  | .nx ρ' => h ρ'
  | o => o
def fAsg (i : Nat) (f : Rho → Rs D) : Rho → Out := fun ρ => (f ρ).out ρ fun d => .nx (ρ.set i (.va d))
def fAsgO (i : Nat) (f : Rho → Rs D) : Rho → Out := fun ρ => (f ρ).out ρ fun d => match d with
  | .list ds => .nx (ρ.set i (.ow ds))
  | _ => .stuck
def fAsgM (i : Nat) (f : Rho → Rs D) : Rho → Out := fun ρ => (f ρ).out ρ fun d => match d with
  | .dict es => .nx (ρ.set i (.od es))
  | _ => .stuck
def fRet (f : Rho → Rs D) : Rho → Out := fun ρ => (f ρ).out ρ fun d => .ret d
def fRetV (i : Nat) : Rho → Out := fun ρ => match ρ[i]? with
  | some (.ow ds) => .ret (.list ds)
  | _ => .stuck
def fIf (c : Rho → Rs Bool) (g h : Rho → Out) : Rho → Out := fun ρ => (c ρ).out ρ fun b => if b = true then g ρ else h ρ
def fDrop (f : Rho → Rs D) : Rho → Out := fun ρ => (f ρ).out ρ fun _ => .nx ρ
def fAug (i : Nat) (o : D → D → Rs D) (f : Rho → Rs D) : Rho → Out := fun ρ => (fBin o (fV i) f ρ).out ρ fun d => .nx (ρ.set i (.va d))
def fz (i : Nat) (ρ : Rho) : Rho := match ρ[i]? with
  | some (.ow ds) => ρ.set i (.va (.list ds))
  | some (.ot k d) => if k.full = true then ρ.set i (.va d) else ρ
  | _ => ρ
def fFz (i : Nat) (g : Rho → Out) : Rho → Out := fun ρ => g (fz i ρ)
def fMut (i : Nat) (f : Rho → Rs (List D)) (o : List D → List D → Rs (List D)) : Rho → Out := fun ρ => match ρ[i]? with
  | some (.ow ds) => (f ρ).out ρ fun as => (o ds as).out ρ fun es => .nx (ρ.set i (.ow es))
  | _ => .stuck
def mAppend (ds as : List D) : Rs (List D) := match as with
  | [d] => if ds.length < sizeLine then .ok (ds ++ [d]) else .stuck
  | _ => .stuck
def mExtend (ds as : List D) : Rs (List D) := match as with
  | [.list es] => if ds.length + es.length ≤ sizeLine then .ok (ds ++ es) else .stuck
  | _ => .stuck
def mReverse (ds as : List D) : Rs (List D) := match as with
  | [] => .ok ds.reverse
  | _ => .stuck
def mClear (ds as : List D) : Rs (List D) := match as with
  | [] => .ok []
  | _ => .stuck
def mPop (ds as : List D) : Rs (List D) := match as with
  | [] => if ds.length = 0 then .stuck else .ok ds.dropLast
  | _ => .stuck
section
variable {S : Sx} {kd : Kd} {st : Stmt} {sts : List Stmt} {g h : Rho → Out} {e : Expr} {f : Rho → Rs D} {te : TE} {i : Nat} {pos : Pos}
theorem xss_nil : XSs S kd [] fSkip := ⟨_, pss_nil, fun H0 G0 σ H G ρ N q w => w σ H G q⟩
theorem ts_seq {t u : TS} (h1 : TSt S kd t g) (h2 : TSt S kd u h) : TSt S kd (tSeq t u) (fSeq g h) := fun H0 G0 σ H G ρ N q w => by
  refine h1 H0 G0 σ H G ρ _ q ?_
  unfold fSeq at w
  cases e : g ρ with
  | nx ρ' =>
    rw [e] at w
    exact fun σ' H' G' q' => h2 H0 G0 σ' H' G' ρ' N q' w
  | ret d => rw [e] at w; exact w
  | brk d => rw [e] at w; exact w
  | ct d => rw [e] at w; exact w
  | exc d r => rw [e] at w; exact w
  | stuck => rw [e] at w; exact w
theorem xss_cons (h1 : XS S kd st g) (h2 : XSs S kd sts h) : XSs S kd (st :: sts) (fSeq g h) :=
  let ⟨_, a1, a2⟩ := h1; let ⟨_, b1, b2⟩ := h2; ⟨_, pss_cons a1 b1, ts_seq a2 b2⟩
theorem xss_one (h1 : XS S kd st g) : XSs S kd [st] g := let ⟨_, a1, a2⟩ := h1; ⟨_, pss_one a1, a2⟩
theorem ts_set (h : TV S .e te f) : TSt S kd (tAsg te (gName i)) (fAsg i f) := fun H0 G0 σ H G ρ N q w =>
  h H0 G0 σ H G ρ _ q (Wp.imp (wp_out q w) (fun d wd v H1 G1 s1 r1 => wd _ H1 G1 ((q.step s1).setV r1)) fun _ z => z)
theorem xs_set (hp : ∀ te, PE S.X e te → PS S.X st (tAsg te (gName i))) (h : XX S .e e f) : XS S kd st (fAsg i f) :=
  let ⟨_, a1, a2⟩ := h; ⟨_, hp _ a1, ts_set a2⟩
theorem ts_setO (h : TV S .o te f) (hio : S.io i = none := by rfl) : TSt S kd (tAsg te (gName i)) (fAsgO i f) := fun H0 G0 σ H G ρ N q w =>
  h H0 G0 σ H G ρ _ q (Wp.imp (wp_out q w) (fun d wd v H1 G1 s1 r1 => by
    obtain ⟨p, vs, ds, rfl, rfl, h1, h2, h3, h4⟩ := r1
    exact wd _ H1 G1 (q.setO s1 (fun _ _ z => nomatch z) ⟨p, vs, rfl, h1, h3, Same.free q.st.hh h2, h4⟩ h2 hio)) fun _ z => z)
theorem xs_setO (hp : ∀ te, PE S.X e te → PS S.X st (tAsg te (gName i))) (h : XX S .o e f) (hio : S.io i = none := by rfl) : XS S kd st (fAsgO i f) :=
  let ⟨_, a1, a2⟩ := h; ⟨_, hp _ a1, ts_setO a2 hio⟩
theorem xs_ret (h : XX S kd e f) : XS S kd (.Return (some e) pos) (fRet f) :=
  let ⟨_, a1, a2⟩ := h; ⟨_, ps_ret a1, fun H0 G0 σ H G ρ N q w =>
    a2 H0 G0 σ H G ρ _ q (Wp.imp (wp_out q w) (fun d wd v H1 G1 s1 r1 => wd v H1 G1 (q.st.trans s1) (r1.anti q.st.hh)) fun _ z => z)⟩
theorem xs_retV {x : Str} {p : Pos} (hv : PE S.X (.Name x p) (tVar i)) : XS S .o (.Return (some (.Name x p)) pos) (fRetV i) :=
  ⟨_, ps_ret hv, fun H0 G0 σ H G ρ N q w => by
    unfold fRetV at w
    split at w
    · rename_i ds e
      obtain ⟨ov, e1, p, vs, rfl, h1, h2, h3, h4⟩ := q.sl i _ e
      exact ⟨_, e1, w _ H G q.st ⟨p, vs, ds, rfl, rfl, h1, h3, h2, h4⟩⟩
    · exact w.elim⟩
theorem xs_if {c : Expr} {a b : List Stmt} {fc : Rho → Rs Bool} (hc : XT S c fc) (ha : XSs S kd a g) (hb : XSs S kd b h) : XS S kd (.If c a b pos) (fIf fc g h) :=
  let ⟨_, c1, c2⟩ := hc; let ⟨_, a1, a2⟩ := ha; let ⟨_, b1, b2⟩ := hb; ⟨_, ps_if c1 a1 b1, fun H0 G0 σ H G ρ N q w => by
    refine c2 H0 G0 σ H G ρ _ q (Wp.imp (wp_out q w) (fun d wd H1 G1 s1 => ?_) fun _ z => z)
    cases d with
    | true => exact iteT (a2 H0 G0 σ H1 G1 ρ N (q.step s1) wd)
    | false => exact iteF (b2 H0 G0 σ H1 G1 ρ N (q.step s1) wd)⟩
theorem xs_drop (hp : ∀ te, PE S.X e te → PS S.X st (tDrop te)) (h : XX S .b e f) : XS S kd st (fDrop f) :=
  let ⟨_, a1, a2⟩ := h; ⟨_, hp _ a1, fun H0 G0 σ H G ρ N q w =>
    a2 H0 G0 σ H G ρ _ q (Wp.imp (wp_out q w) (fun d wd v H1 G1 s1 r1 => wd _ H1 G1 (q.step s1)) fun _ z => z)⟩
theorem xs_break : XS S kd (.Break pos) (fun ρ => .brk ρ) := ⟨_, ps_break, fun H0 G0 σ H G ρ N q w => w σ H G q⟩
theorem xs_aug {o : D → D → Rs D} {ti : TIp} (hp : ∀ te, PE S.X e te → PS S.X st (tAug i te ti)) (ho : OpS .e .e .e ti o) (nx : ∀ x y, NoX (o x y)) (h : XX S .e e f) : XS S kd st (fAug i o f) :=
  let ⟨_, a1, a2⟩ := h; ⟨_, hp _ a1, fun H0 G0 σ H G ρ N q w => by
    have w1 := wp_out q w
    have w2 := Wp.bind w1
    unfold fV at w2
    cases e : ρ[i]? with
    | none => rw [e] at w2; exact w2.elim
    | some s =>
      obtain ⟨ov, e1, e2⟩ := q.sl i s e
      cases s with
      | va d =>
        rw [e] at w2
        obtain ⟨v, rfl, r⟩ := e2
        refine ⟨v, e1, ?_⟩
        refine a2 H0 G0 σ H G ρ _ q (Wp.imp (Wp.bind (wp_ok (E := ExW S σ H G) w2)) (fun y wy u H1 G1 s1 r1 => ?_) fun _ z => z)
        refine ho H1 G1 v u d y _ s1.sub (Rp.mono s1.gg r) r1 (Wp.imp (Wp.noX (E' := fun _ => False) (nx d y) wy) (fun z qz v' H' G' s3 r3 => ?_) fun _ z => z)
        exact qz _ H' G' ((q.step (s1.trans s3)).setV r3)
      | _ => rw [e] at w2; exact w2.elim⟩
theorem ops_addI : OpS .e .e .e (ipI fun i j => i + j) sAddI := fun H G x y dx dy Q s hx hy w => by
  unfold sAddI at w
  split at w
  · cases Rp.int_inv hx
    cases Rp.int_inv hy
    exact ⟨_, _, rfl, rfl, w _ H G (Step.refl s) (.int _)⟩
  · exact w.elim
theorem nx_addI (x y : D) : NoX (sAddI x y) := by unfold sAddI; split <;> first | exact noX_ok _ | exact noX_stuck
theorem xs_augAdd (hp : ∀ te, PE S.X e te → PS S.X st (tAug i te (ipI fun i j => i + j))) (h : XX S .e e f) : XS S kd st (fAug i sAddI f) := xs_aug hp ops_addI nx_addI h
theorem Ok.frz {H0 G0 H G G' : Hp} {σ : St} {ρ : Rho} (q : Ok S H0 G0 σ H G ρ) {i : Nat} {s : Sl} {v : V} {d : D} (es : ρ[i]? = some s) (t : Step H0 G0 H G') (gg : Same G G') (out : ∀ p, ¬ FP H G σ[i]? p s → G' p = G p)
    (ev : σ[i]? = some (some v)) (r : Rp G' v d) : Ok S H0 G0 σ H G' (ρ.set i (.va d)) := by
  have nofi : ∀ (j : Nat) (b : Sl) (p : Addr), i ≠ j → ρ[j]? = some b → FP H G σ[j]? p b → G' p = none := fun j b p ne e f => by
    rw [out p (fun z => q.sep i j s b p ne es e z f)]
    exact (q.fpIn e f).2.1
  have keep : ∀ (j : Nat), i ≠ j → ∀ v sh d f, ρ[j]? = some (.ot sh d) → σ[j]? = some (some v) → RT H G sh v d f → RT H G' sh v d f := fun j ne v sh d f e ev r =>
    r.mono gg fun p hp => ⟨nofi j _ p ne e ⟨v, f, ev, r, hp⟩, rfl⟩
  refine ⟨t, by rw [List.length_set]; exact q.len, fun j x e => ?_, fun a b x y p ne ea eb fa fb => ?_, fun a v' t e1 e2 e3 => ?_⟩
  rotate_right
  · rcases set_get e2 with ⟨rfl, rfl⟩ | ⟨ne, e2⟩
    · cases e3
    · exact q.pin a v' t e1 e2 e3
  · rcases set_get e with ⟨rfl, rfl⟩ | ⟨ne, e⟩
    · exact ⟨_, ev, _, rfl, r⟩
    · obtain ⟨ov, f1, f2⟩ := q.sl j x e
      refine ⟨ov, f1, ?_⟩
      cases x with
      | un => exact trivial
      | va d =>
        obtain ⟨v, a, b⟩ := f2
        exact ⟨v, a, b.mono gg⟩
      | ow ds =>
        obtain ⟨p', vs, rfl, b, c, d, f⟩ := f2
        exact ⟨p', vs, rfl, b, nofi j _ p' ne e f1, d, f.mono gg⟩
      | od ds =>
        obtain ⟨p', vs, rfl, b, c, d, f⟩ := f2
        exact ⟨p', vs, rfl, b, nofi j _ p' ne e f1, d, f.mono gg⟩
      | ex er =>
        obtain ⟨a, cls, dd, x1, x2, x3⟩ := f2
        exact ⟨a, cls, dd, x1, x2, x3.mono gg⟩
      | ot sh d =>
        obtain ⟨v, fp, rfl, b, c, f⟩ := f2
        exact ⟨v, fp, rfl, keep j ne v sh d fp e f1 b, c, f⟩
      | br sh d =>
        obtain ⟨v, fp, rfl, b, c⟩ := f2
        exact ⟨v, fp, rfl, b.mono gg fun p hp => ⟨by rw [out p (fun z => c p hp (q.fpIn es z).2.2)]; exact (b.own p hp).2, rfl⟩, c⟩
  · have old : ∀ (c : Nat) (z : Sl), (ρ.set i (.va d))[c]? = some z → FP H G' σ[c]? p z → i ≠ c ∧ ρ[c]? = some z ∧ FP H G σ[c]? p z := fun c z e f => by
      rcases set_get e with ⟨rfl, rfl⟩ | ⟨ne, e⟩
      · exact f.elim
      · obtain ⟨ov, f1, f2⟩ := q.sl c z e
        refine ⟨ne, e, ?_⟩
        rw [f1] at f ⊢
        exact f.back f2 fun v' sh' d' f' ev' r' eq => by
          subst eq
          cases ev'
          exact keep c ne _ _ _ _ e f1 r'
    obtain ⟨_, e1, g1⟩ := old a x ea fa
    obtain ⟨_, e2, g2⟩ := old b y eb fb
    exact q.sep a b x y p ne e1 e2 g1 g2
theorem Ok.fz {H0 G0 H G : Hp} {σ : St} {ρ : Rho} (q : Ok S H0 G0 σ H G ρ) (i : Nat) : ∃ G', Same G G' ∧ Ok S H0 G0 σ H G' (fz i ρ) := by
  unfold Ct.fz
  split
  · rename_i ds e
    obtain ⟨ov, e1, p, vs, rfl, h1, h2, h3, h4⟩ := q.sl i _ e
    refine ⟨_, same_new h2, q.frz e (q.st.give h3 h1 h2) (same_new h2) (fun p' n => ?_) e1 (.lst upd_same (h4.mono (same_new h2)))⟩
    rw [upd_ne]
    intro z
    subst z
    exact n e1
  · rename_i sh d e
    split
    · rename_i fu
      obtain ⟨ov, e1, v, fp, rfl, h1, h2, h3⟩ := q.sl i _ e
      obtain ⟨G', t, gg, r, out⟩ := h1.give q.st fu h2 h3
      exact ⟨G', gg, q.frz e t gg (fun p n => out p fun z => n ⟨v, fp, e1, h1, z⟩) e1 r⟩
    · exact ⟨G, Same.refl G, q⟩
  · exact ⟨G, Same.refl G, q⟩
theorem ts_fz {t : TS} (i : Nat) (h : TSt S kd t g) : TSt S kd t (fFz i g) := fun H0 G0 σ H G ρ N q w => by
  obtain ⟨G', _, q'⟩ := q.fz i
  exact h H0 G0 σ H G' _ N q' w
theorem xs_fz (i : Nat) (h : XS S kd st g) : XS S kd st (fFz i g) := let ⟨_, a1, a2⟩ := h; ⟨_, a1, ts_fz i a2⟩
def MuS (o : List D → List D → Rs (List D)) (r : V → List V → Hp → VK → Prop) : Prop := ∀ H G p vs ds us as (Q : VK), H p = some (.lst vs) → G p = none → Same G H → RpL G vs ds → RpL G us as → Wp (o ds as) (fun es => ∀ ws, RpL G ws es → ∀ v, Q v (upd H p (.lst ws))) (fun _ => False) → r (.ref p) us H Q
theorem ts_mut {r : V → List V → Hp → VK → Prop} {o : List D → List D → Rs (List D)} {fa : Rho → Rs (List D)} {ta : TA} (nx : ∀ x y, NoX (o x y)) (hr : MuS o r)
    (ha : TAr S .e ta fa) : TSt S kd (tDrop (tBM S.X.K "list" r (tVar i) ta)) (fMut i fa o) := fun H0 G0 σ H G ρ N q w => by
  unfold fMut at w
  split at w
  · rename_i ds e
    obtain ⟨ov, e1, p, vs, rfl, h1, h2, h3, h4⟩ := q.sl i _ e
    refine ⟨_, e1, .inl ⟨rfl, _, .of h1⟩, ?_⟩
    refine ha H0 G0 σ H G ρ _ q (Wp.imp (wp_out q w) (fun as wa us H1 G1 s1 r1 => ?_) fun _ z => z)
    have q1 := q.step s1
    refine hr H1 G1 p vs ds us as _ (s1.hh _ _ h1) (s1.sep p h2 (by rw [h1]; exact Option.some_ne_none _)) s1.sub (h4.mono s1.gg) r1 (Wp.imp (Wp.noX (E' := fun _ => False) (nx ds as) (wp_out q1 wa)) (fun es we ws hw v => ?_) fun _ z => z)
    have g1 := s1.sep p h2 (by rw [h1]; exact Option.some_ne_none _)
    exact we _ _ G1 (q1.write e rfl (fun _ _ z => nomatch z) (fun _ _ z => nomatch z) e1 ⟨p, ws, rfl, upd_same, g1, h3, hw⟩)
  · exact w.elim
theorem nx_append (x y : List D) : NoX (mAppend x y) := by unfold mAppend; split <;> first | exact noX_if (noX_ok _) noX_stuck | exact noX_stuck
theorem nx_reverse (x y : List D) : NoX (mReverse x y) := by unfold mReverse; split <;> first | exact noX_ok _ | exact noX_stuck
theorem nx_clear (x y : List D) : NoX (mClear x y) := by unfold mClear; split <;> first | exact noX_ok _ | exact noX_stuck
theorem nx_pop (x y : List D) : NoX (mPop x y) := by unfold mPop; split <;> first | exact noX_if noX_stuck (noX_ok _) | exact noX_stuck
theorem mu_append : MuS mAppend rAppend := fun H G p vs ds us as Q h g s hv hu w => by
  unfold mAppend at w
  split at w
  · split at w
    · rename_i hl
      cases hu with
      | cons r1 r2 =>
        cases r2
        exact ⟨p, vs, _, rfl, rfl, h, by rw [hv.length]; exact hl, wp_ok w _ (hv.append (.cons r1 .nil)) _⟩
    · exact w.elim
  · exact w.elim
theorem RpL.dropLast {G : Hp} {vs : List V} {ds : List D} (h : RpL G vs ds) : RpL G vs.dropLast ds.dropLast := by
  rw [List.dropLast_eq_take, List.dropLast_eq_take, h.length]
  exact h.take _
theorem xs_append {fa : Rho → Rs (List D)} {es : List Expr} (hp : ∀ ta, PA S.X es ta → PS S.X st (tDrop (tBM S.X.K "list" rAppend (tVar i) ta))) (h : XA S .e es fa) : XS S kd st (fMut i fa mAppend) :=
  let ⟨_, a1, a2⟩ := h; ⟨_, hp _ a1, ts_mut nx_append mu_append a2⟩
theorem ts_mut0 {r : V → List V → Hp → VK → Prop} {o : List D → List D → Rs (List D)} (nx : ∀ x y, NoX (o x y)) (hr : MuS o r) : TSt S kd (tDrop (tBM0 S.X.K "list" r (tVar i))) (fMut i aNil o) := fun H0 G0 σ H G ρ N q w => by
  unfold fMut at w
  split at w
  · rename_i ds e
    obtain ⟨ov, e1, p, vs, rfl, h1, h2, h3, h4⟩ := q.sl i _ e
    refine ⟨_, e1, .inl ⟨rfl, _, .of h1⟩, ?_⟩
    refine hr H G p vs ds [] [] _ h1 h2 q.st.sub h4 .nil (Wp.imp (Wp.noX (E' := fun _ => False) (nx ds []) (wp_out q w)) (fun es we ws hw v => ?_) fun _ z => z)
    exact we _ _ G (q.write e rfl (fun _ _ z => nomatch z) (fun _ _ z => nomatch z) e1 ⟨p, ws, rfl, upd_same, h2, h3, hw⟩)
  · exact w.elim
theorem mu_reverse : MuS mReverse rReverse := fun H G p vs ds us as Q h g s hv hu w => by
  unfold mReverse at w
  split at w
  · cases hu
    exact ⟨p, vs, rfl, rfl, h, wp_ok w _ hv.reverse _⟩
  · exact w.elim
theorem mu_clear : MuS mClear rClear := fun H G p vs ds us as Q h g s hv hu w => by
  unfold mClear at w
  split at w
  · cases hu
    exact ⟨p, vs, rfl, rfl, h, wp_ok w _ .nil _⟩
  · exact w.elim
theorem mu_pop : MuS mPop rPop := fun H G p vs ds us as Q h g s hv hu w => by
  unfold mPop at w
  split at w
  · cases hu
    split at w
    · exact w.elim
    · rename_i hl
      cases e : vs[vs.length - 1]? with
      | none =>
        rw [List.getElem?_eq_none_iff, hv.length] at e
        omega
      | some y => exact ⟨p, vs, y, rfl, rfl, h, e, wp_ok w _ hv.dropLast _⟩
  · exact w.elim
theorem xs_reverse (hp : PS S.X st (tDrop (tBM0 S.X.K "list" rReverse (tVar i)))) : XS S kd st (fMut i aNil mReverse) := ⟨_, hp, ts_mut0 nx_reverse mu_reverse⟩
theorem xs_clear (hp : PS S.X st (tDrop (tBM0 S.X.K "list" rClear (tVar i)))) : XS S kd st (fMut i aNil mClear) := ⟨_, hp, ts_mut0 nx_clear mu_clear⟩
theorem xs_pop (hp : PS S.X st (tDrop (tBM0 S.X.K "list" rPop (tVar i)))) : XS S kd st (fMut i aNil mPop) := ⟨_, hp, ts_mut0 nx_pop mu_pop⟩
def fSet (i : Nat) (fv fk : Rho → Rs D) : Rho → Out := fun ρ => (fv ρ).out ρ fun v => match ρ[i]? with
  | some (.ow ds) => (fk ρ).out ρ fun k => match k with
    | .int n => match ixN ds.length n with
      | some j => .nx (ρ.set i (.ow (ds.set j v)))
      | none => .stuck
    | _ => .stuck
  | _ => .stuck
theorem xs_setItem {ek : Expr} {fk : Rho → Rs D} (hp : ∀ te ti, PE S.X e te → PE S.X ek ti → PS S.X st (tAsg te (gSub (tVar i) ti rSetL))) (hv : XX S .e e f) (hk : XX S .e ek fk) : XS S kd st (fSet i f fk) :=
  let ⟨_, a1, a2⟩ := hv; let ⟨_, b1, b2⟩ := hk; ⟨_, hp _ _ a1 b1, fun H0 G0 σ H G ρ N q w => by
    refine a2 H0 G0 σ H G ρ _ q (Wp.imp (wp_out q w) (fun d wd v H1 G1 s1 r1 => ?_) fun _ z => z)
    have q1 := q.step s1
    split at wd
    · rename_i ds e
      obtain ⟨ov, e1, p, vs, rfl, h1, h2, h3, h4⟩ := q1.sl i _ e
      refine ⟨_, e1, ?_⟩
      refine b2 H0 G0 σ H1 G1 ρ _ q1 (Wp.imp (wp_out q1 wd) (fun k wk u H2 G2 s2 r2 => ?_) fun _ z => z)
      have q2 := q1.step s2
      split at wk
      · rename_i n
        cases Rp.int_inv r2
        split at wk
        · rename_i j ej
          have g2 := s2.sep p h2 (by rw [h1]; exact Option.some_ne_none _)
          refine ⟨p, vs, n, j, rfl, rfl, s2.hh _ _ h1, by rw [h4.length]; exact ej, ?_⟩
          exact wk _ _ G2 (q2.write e rfl (fun _ _ z => nomatch z) (fun _ _ z => nomatch z) e1 ⟨p, _, rfl, upd_same, g2, h3, (h4.mono s2.gg).set j (Rp.mono s2.gg r1)⟩)
        · exact wk.elim
      · exact wk.elim
    · exact wd.elim⟩
end
end Ct

namespace Ct
open PySem PySem.Spec PyProof.Rows L2

abbrev Tg := D → Rho → Rs Rho
def tgN (i : Nat) : Tg := fun d ρ => .ok (ρ.set i (.va d))
def tgL : List Tg → List D → Rho → Rs Rho
  | [], [], ρ => .ok ρ
  | t :: ts, d :: ds, ρ => (t d ρ).bind fun ρ' => tgL ts ds ρ'
  | _, _, _ => .stuck
def tgT (l : List Tg) : Tg := fun d ρ => match d with
  | .tuple ds => tgL l ds ρ
  | _ => .stuck
structure TgE (S : Sx) (is : List Nat) (H0 G0 : Hp) (σ : St) (H G : Hp) (ρ' : Rho) (σ' : St) : Prop where
  ok : Ok S H0 G0 σ' H G ρ'
  out : ∀ j, j ∉ is → σ'[j]? = σ[j]?
  len : σ'.length = σ.length
def XG (S : Sx) (tg : Expr) (is : List Nat) (f : Tg) : Prop := ∃ g, PG S.X tg g ∧ ∀ H0 G0 σ H G ρ v d (Q : St → Hp → Prop), Ok S H0 G0 σ H G ρ → Rp G v d → Wp (f d ρ) (fun ρ' => ∀ σ', TgE S is H0 G0 σ H G ρ' σ' → Q σ' H) (fun _ => False) → g v σ H Q
def XGs (S : Sx) (tgs : List Expr) (is : List Nat) (fs : List Tg) : Prop := ∃ g, PGs S.X tgs g ∧ ∀ H0 G0 σ H G ρ vs ds (Q : St → Hp → Prop), Ok S H0 G0 σ H G ρ → RpL G vs ds → Wp (tgL fs ds ρ) (fun ρ' => ∀ σ', TgE S is H0 G0 σ H G ρ' σ' → Q σ' H) (fun _ => False) → g vs σ H Q
section
variable {S : Sx}
theorem xg_name (i : Nat) {x : Str} {pos : Pos} (hp : PG S.X (.Name x pos) (gName i)) : XG S (.Name x pos) [i] (tgN i) := ⟨_, hp, fun H0 G0 σ H G ρ v d Q q r w =>
  wp_ok w _ ⟨q.setV r, fun j hj => List.getElem?_set_ne (fun e => hj (by rw [e]; exact List.mem_cons_self)), List.length_set⟩⟩
theorem xgs_nil : XGs S [] [] [] := ⟨_, pgs_nil, fun H0 G0 σ H G ρ vs ds Q q r w => by
  cases r with
  | nil => exact ⟨rfl, wp_ok w _ ⟨q, fun _ _ => rfl, rfl⟩⟩
  | cons _ _ => exact w.elim⟩
theorem xgs_cons {e : Expr} {es : List Expr} {is js : List Nat} {f : Tg} {fs : List Tg} (h1 : XG S e is f) (h2 : XGs S es js fs)
    (hs : (assignEach (e :: es) S.X.env).map (·.2) = assign e S.X.env :: (assignEach es S.X.env).map (·.2) := by rfl) : XGs S (e :: es) (is ++ js) (f :: fs) :=
  let ⟨_, a1, a2⟩ := h1; let ⟨_, b1, b2⟩ := h2; ⟨_, pgs_cons a1 b1 hs, fun H0 G0 σ H G ρ vs ds Q q r w => by
    cases r with
    | nil => exact w.elim
    | cons r1 r2 =>
      refine ⟨_, _, rfl, a2 H0 G0 σ H G ρ _ _ _ q r1 (Wp.imp (Wp.bind w) (fun ρ' w' σ' t' => ?_) fun _ z => z)⟩
      refine b2 H0 G0 σ' H G ρ' _ _ _ t'.ok r2 (Wp.imp w' (fun ρ2 w2 σ2 t2 => ?_) fun _ z => z)
      refine w2 σ2 ⟨t2.ok, fun j hj => ?_, t2.len.trans t'.len⟩
      rw [List.mem_append, not_or] at hj
      exact (t2.out j hj.2).trans (t'.out j hj.1)⟩
theorem xg_tup {es : List Expr} {k n : Nat} {pos : Pos} {is : List Nat} {fs : List Tg} (hp : ∀ t, PGs S.X es t → PG S.X (.Tuple es k pos) (gTup S.X.K n t)) (hn : fs.length = n) (h : XGs S es is fs) : XG S (.Tuple es k pos) is (tgT fs) :=
  let ⟨_, a1, a2⟩ := h; ⟨_, hp _ a1, fun H0 G0 σ H G ρ v d Q q r w => by
    unfold tgT at w
    split at w
    · rename_i ds
      obtain ⟨a, xs, rfl, h1, h2⟩ := Rp.tup_inv r
      have len : ∀ (fs : List Tg) (ds : List D) (ρ : Rho) (P : Rho → Prop), Wp (tgL fs ds ρ) P (fun _ => False) → fs.length = ds.length := by
        intro fs
        induction fs with
        | nil => intro ds ρ P w; cases ds with
          | nil => rfl
          | cons _ _ => exact w.elim
        | cons f fs ih => intro ds ρ P w; cases ds with
          | nil => exact w.elim
          | cons d ds =>
            have w := Wp.bind w
            cases e : f d ρ with
            | ok ρ' => rw [e] at w; rw [List.length_cons, List.length_cons, ih ds ρ' P w]
            | exc _ => rw [e] at w; exact w.elim
            | stuck => rw [e] at w; exact w.elim
      exact ⟨a, xs, rfl, .of (q.st.sub _ _ h1), by rw [h2.length, ← len _ _ _ _ w, hn], a2 H0 G0 σ H G ρ xs ds Q q h2 w⟩
    · exact w.elim⟩
def fAsgT (t : Tg) (f : Rho → Rs D) : Rho → Out := fun ρ => (f ρ).out ρ fun d => match t d ρ with
  | .ok ρ' => .nx ρ'
  | _ => .stuck
theorem xs_asgT {kd : Kd} {st : Stmt} {e tg : Expr} {is : List Nat} {t : Tg} {f : Rho → Rs D} (hp : ∀ te g, PE S.X e te → PG S.X tg g → PS S.X st (tAsg te g)) (h : XX S .e e f) (hg : XG S tg is t) : XS S kd st (fAsgT t f) :=
  let ⟨_, a1, a2⟩ := h; let ⟨_, b1, b2⟩ := hg; ⟨_, hp _ _ a1 b1, fun H0 G0 σ H G ρ N q w => by
    refine a2 H0 G0 σ H G ρ _ q (Wp.imp (wp_out q w) (fun d wd v H1 G1 s1 r1 => ?_) fun _ z => z)
    refine b2 H0 G0 σ H1 G1 ρ v d _ (q.step s1) r1 ?_
    cases e : t d ρ with
    | ok ρ' => rw [e] at wd; exact fun σ' te => wd σ' H1 G1 te.ok
    | exc _ => rw [e] at wd; exact wd.elim
    | stuck => rw [e] at wd; exact wd.elim⟩
end

def ItOk (J : It) (G1 : Hp) (ds : List D) : Prop := ∀ (i : Nat) (H G : Hp), Same G1 G → Same G H → (ds.length ≤ i → J.stop i H) ∧ ∀ d, ds[i]? = some d → J.go i H ∧ ∀ x H', J.yld i H x H' → ∃ G', Step H G H' G' ∧ Rp G' x d
def XI (S : Sx) (tg iter : Expr) (f : Rho → Rs (List D)) : Prop := ∃ wi, PI S.X tg iter wi ∧ ∀ H0 G0 σ H G ρ (R : It → Hp → Prop), Ok S H0 G0 σ H G ρ → Wp (f ρ) (fun ds => ∀ J H' G', Step H G H' G' → ItOk J G' ds → R J H') (ExW S σ H G) → wi σ H R
def iLst (f : Rho → Rs D) : Rho → Rs (List D) := fun ρ => (f ρ).bind fun d => match d with
  | .list ds => .ok ds
  | _ => .stuck
def iTpl (f : Rho → Rs D) : Rho → Rs (List D) := fun ρ => (f ρ).bind fun d => match d with
  | .tuple ds => .ok ds
  | _ => .stuck
def rngD (lo hi : Int) : List D := (List.range (hi - lo).toNat).map fun i => .int (lo + (i : Nat))
def iRg1 (g : Rho → Rs (List D)) : Rho → Rs (List D) := fun ρ => (g ρ).bind fun as => match as with
  | [.int j] => if -(2 ^ 62) ≤ j ∧ j < 2 ^ 62 then .ok (rngD 0 j) else .stuck
  | _ => .stuck
def iRg2 (g : Rho → Rs (List D)) : Rho → Rs (List D) := fun ρ => (g ρ).bind fun as => match as with
  | [.int i, .int j] => if -(2 ^ 62) ≤ i ∧ i < 2 ^ 62 ∧ -(2 ^ 62) ≤ j ∧ j < 2 ^ 62 then .ok (rngD i j) else .stuck
  | _ => .stuck
def iEnu (f : Rho → Rs D) : Rho → Rs (List D) := fun ρ => (f ρ).bind fun d => match d with
  | .list ds => .ok (ds.mapIdx fun i d => .tuple [.int (i : Nat), d])
  | _ => .stuck
def iRv (f : Rho → Rs D) : Rho → Rs (List D) := fun ρ => (f ρ).bind fun d => match d with
  | .list ds => .ok ds.reverse
  | _ => .stuck
def iRvR (f : Rho → Rs D) : Rho → Rs (List D) := fun ρ => (f ρ).bind fun d => match d with
  | .int j => if -(2 ^ 62) ≤ j ∧ j < 2 ^ 62 then .ok (rngD 0 j).reverse else .stuck
  | _ => .stuck
section
variable {S : Sx} {tg : Expr} {K : PySem.W.Frag}
theorem ito_list {G1 : Hp} {a : Addr} {vs : List V} {ds : List D} (h : G1 a = some (.lst vs)) (hl : RpL G1 vs ds) : ItOk (Itl K a) G1 ds := fun i H G s1 s2 => by
  have hH : SqL K H a vs := .of (s2 _ _ (s1 _ _ h))
  refine ⟨fun hi => ⟨vs, hH, by rw [hl.length]; exact hi⟩, fun d hd => ?_⟩
  obtain ⟨v, hv, r⟩ := hl.get hd
  refine ⟨⟨vs, v, hH, hv⟩, fun x H' y => ?_⟩
  obtain ⟨rfl, y⟩ := y
  have : some v = some x := hv.symm.trans (y vs hH)
  cases this
  exact ⟨G, Step.refl s2, r.mono s1⟩
theorem rngD_get {lo hi : Int} {i : Nat} {d : D} (h : (rngD lo hi)[i]? = some d) : i < (hi - lo).toNat ∧ d = .int (lo + (i : Nat)) := by
  unfold rngD at h
  rw [List.getElem?_map] at h
  cases e : (List.range (hi - lo).toNat)[i]? with
  | none => rw [e] at h; cases h
  | some j =>
    rw [e] at h
    obtain ⟨h1, h2⟩ := List.getElem?_eq_some_iff.mp e
    rw [List.getElem_range] at h2
    subst h2
    rw [List.length_range] at h1
    cases h
    exact ⟨h1, rfl⟩
theorem rngD_len (lo hi : Int) : (rngD lo hi).length = (hi - lo).toNat := by unfold rngD; rw [List.length_map, List.length_range]
theorem ito_range {G1 : Hp} (lo hi : Int) : ItOk (Itr lo (hi - lo).toNat) G1 (rngD lo hi) := fun i H G s1 s2 => by
  refine ⟨fun h => by rw [rngD_len] at h; exact h, fun d hd => ?_⟩
  obtain ⟨h1, rfl⟩ := rngD_get hd
  refine ⟨h1, fun x H' y => ?_⟩
  obtain ⟨rfl, rfl⟩ := y
  exact ⟨G, Step.refl s2, .int _⟩
theorem ito_enum {G1 : Hp} {a : Addr} {vs : List V} {ds : List D} (h : G1 a = some (.lst vs)) (hl : RpL G1 vs ds) : ItOk (Ite K a) G1 (ds.mapIdx fun i d => .tuple [.int (i : Nat), d]) := fun i H G s1 s2 => by
  have hH : SqL K H a vs := .of (s2 _ _ (s1 _ _ h))
  refine ⟨fun hi => ⟨vs, hH, by rw [hl.length]; rw [List.length_mapIdx] at hi; exact hi⟩, fun d hd => ?_⟩
  rw [List.getElem?_mapIdx] at hd
  cases e : ds[i]? with
  | none => rw [e] at hd; cases hd
  | some d0 =>
    rw [e] at hd
    cases hd
    obtain ⟨v, hv, r⟩ := hl.get e
    refine ⟨⟨vs, v, hH, hv⟩, fun x H' y => ?_⟩
    obtain ⟨T, x0, rfl, hT, rfl, y⟩ := y
    have : some v = some x0 := hv.symm.trans (y vs hH)
    cases this
    exact ⟨_, Step.new s2 hT, .tup upd_same (.cons (.int _) (.cons (r.mono (s1.trans (same_new (Same.free s2 hT)))) .nil))⟩
theorem xi_list {l : Expr} {f : Rho → Rs D} (h : XX S .e l f) : XI S tg l (iLst f) :=
  let ⟨_, a1, a2⟩ := h; ⟨_, pi_list a1, fun H0 G0 σ H G ρ R q w => by
    refine a2 H0 G0 σ H G ρ _ q (Wp.imp (Wp.bind w) (fun d wd v H1 G1 s1 r1 => ?_) fun _ z => z)
    cases d with
    | list ds =>
      obtain ⟨a, xs, rfl, h1, h2⟩ := Rp.lst_inv r1
      exact ⟨a, rfl, ⟨xs, .of (s1.sub _ _ h1)⟩, wp_ok wd _ _ _ s1 (ito_list h1 h2)⟩
    | _ => exact wd.elim⟩
theorem xi_range1 {iter e : Expr} {g : Rho → Rs (List D)} (hp : ∀ ta, PA S.X [e] ta → PI S.X tg iter (iRng1 ta)) (h : XA S .b [e] g) : XI S tg iter (iRg1 g) :=
  let ⟨_, a1, a2⟩ := h; ⟨_, hp _ a1, fun H0 G0 σ H G ρ R q w => by
    refine a2 H0 G0 σ H G ρ _ q (Wp.imp (Wp.bind w) (fun ds wd vs H1 G1 s1 r1 => ?_) fun _ z => z)
    split at wd
    · split at wd
      · rename_i j c
        cases r1 with
        | cons x y =>
          cases y
          cases Rp.int_inv x
          have e : ∀ j : Int, (j - 0).toNat = j.toNat := fun j => by rw [Int.sub_zero]
          have := wp_ok wd (Itr 0 (j - 0).toNat) _ _ s1 (ito_range 0 j)
          rw [e] at this
          exact ⟨j, rfl, c.1, c.2, this⟩
      · exact wd.elim
    · exact wd.elim⟩
theorem xi_range2 {iter e e2 : Expr} {g : Rho → Rs (List D)} (hp : ∀ ta, PA S.X [e, e2] ta → PI S.X tg iter (iRng2 ta)) (h : XA S .b [e, e2] g) : XI S tg iter (iRg2 g) :=
  let ⟨_, a1, a2⟩ := h; ⟨_, hp _ a1, fun H0 G0 σ H G ρ R q w => by
    refine a2 H0 G0 σ H G ρ _ q (Wp.imp (Wp.bind w) (fun ds wd vs H1 G1 s1 r1 => ?_) fun _ z => z)
    split at wd
    · split at wd
      · rename_i i j c
        cases r1 with
        | cons x y =>
          cases y with
          | cons y z =>
            cases z
            cases Rp.int_inv x
            cases Rp.int_inv y
            exact ⟨i, j, rfl, c, wp_ok wd _ _ _ s1 (ito_range i j)⟩
      · exact wd.elim
    · exact wd.elim⟩
theorem xi_enum {iter e : Expr} {f : Rho → Rs D} (hp : ∀ te, PE S.X e te → PI S.X tg iter (iEnum S.X.K (tCons te tNil))) (h : XX S .e e f) : XI S tg iter (iEnu f) :=
  let ⟨_, a1, a2⟩ := h; ⟨_, hp _ a1, fun H0 G0 σ H G ρ R q w => by
    refine a2 H0 G0 σ H G ρ _ q (Wp.imp (Wp.bind w) (fun d wd v H1 G1 s1 r1 => ?_) fun _ z => z)
    cases d with
    | list ds =>
      obtain ⟨a, xs, rfl, h1, h2⟩ := Rp.lst_inv r1
      exact ⟨a, xs, rfl, .of (s1.sub _ _ h1), wp_ok wd _ _ _ s1 (ito_enum h1 h2)⟩
    | _ => exact wd.elim⟩
theorem ito_revR {G1 : Hp} (j : Int) : ItOk (Itc (0 + (((j - 0).toNat : Nat) : Int) - 1) (-1) (j - 0).toNat) G1 (rngD 0 j).reverse := fun i H G s1 s2 => by
  refine ⟨fun h => by rw [List.length_reverse, rngD_len] at h; exact h, fun d hd => ?_⟩
  have hi : i < (rngD 0 j).length := by
    rw [← List.length_reverse]
    exact (List.getElem?_eq_some_iff.mp hd).1
  rw [List.getElem?_reverse hi] at hd
  obtain ⟨h1, rfl⟩ := rngD_get hd
  rw [rngD_len] at hi h1
  refine ⟨hi, fun x H' y => ?_⟩
  obtain ⟨rfl, rfl⟩ := y
  refine ⟨G, Step.refl s2, ?_⟩
  have : (0 + (((j - 0).toNat : Nat) : Int) - 1 + (i : Nat) * -1) = 0 + (((rngD 0 j).length - 1 - i : Nat) : Int) := by
    rw [rngD_len]
    omega
  rw [this]
  exact .int _
theorem xi_revR {iter e : Expr} {f : Rho → Rs D} (hp : ∀ te, PE S.X e te → PI S.X tg iter (iRevR (tRg1 te))) (h : XX S .e e f) : XI S tg iter (iRvR f) :=
  let ⟨_, a1, a2⟩ := h; ⟨_, hp _ a1, fun H0 G0 σ H G ρ R q w => by
    refine a2 H0 G0 σ H G ρ _ q (Wp.imp (Wp.bind w) (fun d wd v H1 G1 s1 r1 => ?_) fun _ z => z)
    cases d with
    | int j =>
      have wd : Wp (if -(2 ^ 62) ≤ j ∧ j < 2 ^ 62 then Rs.ok (rngD 0 j).reverse else .stuck) (fun ds => ∀ J H' G', Step H G H' G' → ItOk J G' ds → R J H') (ExW S σ H G) := wd
      by_cases c : -(2 ^ 62) ≤ j ∧ j < 2 ^ 62
      · rw [if_pos c] at wd
        cases Rp.int_inv r1
        exact ⟨j, rfl, by decide, by decide, c.1, c.2, wp_ok wd _ _ _ s1 (ito_revR j)⟩
      · rw [if_neg c] at wd
        exact wd.elim
    | _ => exact wd.elim⟩
end

def loopS (tg : Tg) (body : Rho → Out) : List D → Rho → Out
  | [], ρ => .nx ρ
  | d :: ds, ρ => match tg d ρ with
    | .ok ρ1 => match body ρ1 with
      | .nx ρ2 => loopS tg body ds ρ2
      | .ct ρ2 => loopS tg body ds ρ2
      | .brk ρ2 => .nx ρ2
      | o => o
    | _ => .stuck
def fFor (f : Rho → Rs (List D)) (tg : Tg) (body : Rho → Out) : Rho → Out := fun ρ => (f ρ).out ρ fun ds => loopS tg body ds ρ
section
variable {S : Sx} {kd : Kd}
theorem Step.rebase {H0 G0 H1 G1 H G : Hp} (a : Step H0 G0 H1 G1) (b : Step H0 G1 H G) : Step H0 G0 H G := ⟨b.hh, a.gg.trans b.gg, b.sub, fun x g h => b.sep x (a.sep x g h) h⟩
theorem Ok.rebase {H0 G0 H1 G1 H G : Hp} {σ : St} {ρ : Rho} (a : Step H0 G0 H1 G1) (q : Ok S H0 G1 σ H G ρ) : Ok S H0 G0 σ H G ρ := ⟨a.rebase q.st, q.len, q.sl, q.sep, q.pin⟩
theorem Ok.base {H0 G0 H G : Hp} {σ : St} {ρ : Rho} (q : Ok S H0 G0 σ H G ρ) : Ok S H0 G σ H G ρ := ⟨⟨q.st.hh, Same.refl _, q.st.sub, fun _ g _ => g⟩, q.len, q.sl, q.sep, q.pin⟩
theorem OutP.rebase {H0 G0 H1 G1 : Hp} {N : Ends} (a : Step H0 G0 H1 G1) : ∀ {o : Out}, OutP S kd H0 G0 N o → OutP S kd H0 G1 N o
  | .nx _, h => fun σ H G q => h σ H G (q.rebase a)
  | .brk _, h => fun σ H G q => h σ H G (q.rebase a)
  | .ct _, h => fun σ H G q => h σ H G (q.rebase a)
  | .ret _, h => fun v H G s r => h v H G (a.rebase s) r
  | .exc _ _, h => fun c dd σ H G q r => h c dd σ H G (q.rebase a) r
  | .stuck, h => h
theorem ts_for {wi : TI} {g : TG} {tb : TS} {is : List Nat} {f : Rho → Rs (List D)} {tg : Tg} {body : Rho → Out}
    (hi : ∀ H0 G0 σ H G ρ (R : It → Hp → Prop), Ok S H0 G0 σ H G ρ → Wp (f ρ) (fun ds => ∀ J H' G', Step H G H' G' → ItOk J G' ds → R J H') (ExW S σ H G) → wi σ H R)
    (hg : ∀ H0 G0 σ H G ρ v d (Q : St → Hp → Prop), Ok S H0 G0 σ H G ρ → Rp G v d → Wp (tg d ρ) (fun ρ' => ∀ σ', TgE S is H0 G0 σ H G ρ' σ' → Q σ' H) (fun _ => False) → g v σ H Q)
    (hb : TSt S kd tb body) : TSt S kd (tFor wi g tb) (fFor f tg body) := fun H0 G0 σ H G ρ N q w => by
  refine hi H0 G0 σ H G ρ _ q (Wp.imp (wp_out q w) (fun ds wd J H1 G1 s1 it => ?_) fun _ z => z)
  have q1 := q.step s1
  have a : Step H0 G0 H1 G1 := q1.st
  refine ⟨fun i m σ H => m = ds.length - i ∧ i ≤ ds.length ∧ ∃ G ρ, Ok S H0 G1 σ H G ρ ∧ OutP S kd H0 G1 N (loopS tg body (ds.drop i) ρ), ⟨ds.length, by simp, Nat.zero_le _, G1, ρ, q1.base, wd.rebase a⟩, ?_⟩
  rintro i m σ H ⟨rfl, hle, G, ρ, q, w⟩
  by_cases hlt : i < ds.length
  · obtain ⟨go, tn⟩ := (it i H G q.st.gg q.st.sub).2 ds[i] (List.getElem?_eq_getElem hlt)
    rw [List.drop_eq_getElem_cons hlt] at w
    refine .inr ⟨go, fun σ' H' => ∃ G ρ, Ok S H0 G1 σ' H' G ρ ∧ OutP S kd H0 G1 N (loopS tg body (ds.drop (i + 1)) ρ), fun σ' H' ⟨G', ρ', z1, z2⟩ => ⟨ds.length - (i + 1), by omega, rfl, hlt, G', ρ', z1, z2⟩, fun x H' y => ?_⟩
    obtain ⟨G', s', r'⟩ := tn x H' y
    unfold loopS at w
    refine hg H0 G1 σ H' G' ρ x _ _ (q.step s') r' ?_
    cases e : tg ds[i] ρ with
    | exc _ => rw [e] at w; exact w.elim
    | stuck => rw [e] at w; exact w.elim
    | ok ρ1 =>
      rw [e] at w
      refine fun σ2 te => hb H0 G1 σ2 H' G' ρ1 _ te.ok ?_
      cases e2 : body ρ1 with
      | nx ρ2 => simp only [e2] at w; exact fun σ3 H3 G3 q3 => ⟨G3, ρ2, q3, w⟩
      | ct ρ2 => simp only [e2] at w; exact fun σ3 H3 G3 q3 => ⟨G3, ρ2, q3, w⟩
      | brk ρ2 => simp only [e2] at w; exact w
      | ret d => simp only [e2] at w; exact w
      | exc d r => simp only [e2] at w; exact w
      | stuck => simp only [e2] at w; exact w
  · have : i = ds.length := by omega
    subst this
    rw [List.drop_length] at w
    exact .inl ⟨(it _ H G q.st.gg q.st.sub).1 (Nat.le_refl _), w σ H G q⟩
theorem xs_for {st : Stmt} {tge iter : Expr} {bd : List Stmt} {is : List Nat} {f : Rho → Rs (List D)} {tg : Tg} {body : Rho → Out} (hp : ∀ wi g tb, PI S.X tge iter wi → PG S.X tge g → PSs S.X bd tb → PS S.X st (tFor wi g tb))
    (h1 : XI S tge iter f) (h2 : XG S tge is tg) (h3 : XSs S kd bd body) : XS S kd st (fFor f tg body) :=
  let ⟨_, a1, a2⟩ := h1; let ⟨_, b1, b2⟩ := h2; let ⟨_, c1, c2⟩ := h3; ⟨_, hp _ _ _ a1 b1 c1, ts_for a2 b2 c2⟩

end
end Ct

namespace Ct
open PySem PySem.Spec PyProof.Rows L2

def wipeR (ρ : Rho) : List Nat → Rho
  | [] => ρ
  | v :: vs => (wipeR ρ vs).set v .un
def compS (tg : Tg) (c : Rho → Rs Bool) (e : Rho → Rs D) (ρ : Rho) : List D → Rs (List D)
  | [] => .ok []
  | d :: ds => match tg d ρ with
    | .ok ρ1 => match c ρ1 with
      | .ok true => match e ρ1 with
        | .ok y => (compS tg c e ρ ds).bind fun r => .ok (y :: r)
        | _ => .stuck
      | .ok false => compS tg c e ρ ds
      | _ => .stuck
    | _ => .stuck
def fComp (vs : List Nat) (f : Rho → Rs (List D)) (tg : Tg) (c : Rho → Rs Bool) (e : Rho → Rs D) : Rho → Rs D := fun ρ => (f ρ).bind fun ds => if ds.length ≤ sizeLine then (match compS tg c e (wipeR ρ vs) ds with
  | .ok r => .ok (.list r)
  | _ => .stuck) else .stuck
def fYes : Rho → Rs Bool := fun _ => .ok true
abbrev Sx.blk (S : Sx) (X' : Cx) : Sx := { S with X := X', W := fun _ _ _ _ => False }
def XTs (S : Sx) (ifs : List Expr) (c : Rho → Rs Bool) : Prop := ∃ t, PTs S.X ifs t ∧ TB S t c
theorem xts_nil {S : Sx} : XTs S [] fYes := ⟨_, pts_nil, fun H0 G0 σ H G ρ Q q w => wp_ok w H G (Step.refl q.st.sub)⟩
theorem xts_one {S : Sx} {e : Expr} {c : Rho → Rs Bool} (h : XT S e c) : XTs S [e] c := let ⟨_, a1, a2⟩ := h; ⟨_, pts_one a1, a2⟩

def uE (S : Sx) (k : Kd) (f : Rho → Rs D) : TE := fun σ H Q => ∃ H0 G0 G ρ, Ok S H0 G0 σ H G ρ ∧ Wp (f ρ) (fun d => ∀ v H' G', Step H G H' G' → RK k H H' G' v d → Q v H') (fun _ => False)
def uT (S : Sx) (c : Rho → Rs Bool) : TT := fun σ H Q => ∃ H0 G0 G ρ, Ok S H0 G0 σ H G ρ ∧ Wp (c ρ) (fun b => ∀ H' G', Step H G H' G' → Q b H') (fun _ => False)
def uG (S : Sx) (is : List Nat) (f : Tg) : TG := fun v σ H Q => ∃ H0 G0 G ρ d, Ok S H0 G0 σ H G ρ ∧ Rp G v d ∧ Wp (f d ρ) (fun ρ' => ∀ σ', TgE S is H0 G0 σ H G ρ' σ' → Q σ' H) (fun _ => False)
theorem Ok.conv {S S' : Sx} (h1 : S'.ca = S.ca) (h2 : S'.cf = S.cf) (h3 : S'.xa = S.xa) {H0 G0 H G : Hp} {σ : St} {ρ : Rho} (q : Ok S H0 G0 σ H G ρ) (h4 : S'.io = S.io := by rfl) : Ok S' H0 G0 σ H G ρ :=
  ⟨q.st, q.len, fun i s e => by
    obtain ⟨ov, e1, e2⟩ := q.sl i s e
    refine ⟨ov, e1, ?_⟩
    cases s with
    | ex er =>
      obtain ⟨a, cls, dd, x1, x2, x3⟩ := e2
      exact ⟨a, cls, dd, by rw [h3]; exact x1, x2, by rw [h1, h2]; exact x3⟩
    | _ => exact e2, q.sep, by rw [h4]; exact q.pin⟩
section
variable {S : Sx} {X' : Cx} {k : Kd}
theorem pe_u {e : Expr} {f : Rho → Rs D} (h : XX (S.blk X') k e f) : PE X' e (uE S k f) :=
  let ⟨_, a1, a2⟩ := h; ⟨fun pins s σ H Q I ⟨H0, G0, G, ρ, q, w⟩ => a1.run pins s σ H Q I (a2 H0 G0 σ H G ρ Q (Ok.conv (S := S) (S' := S.blk X') rfl rfl rfl q) (w.imp (fun _ z => z) fun _ z => z.elim))⟩
theorem pts_u {e : List Expr} {c : Rho → Rs Bool} (h : XTs (S.blk X') e c) : PTs X' e (uT S c) :=
  let ⟨_, a1, a2⟩ := h; ⟨fun pins s σ H Q I ⟨H0, G0, G, ρ, q, w⟩ => a1.run pins s σ H Q I (a2 H0 G0 σ H G ρ Q (Ok.conv (S := S) (S' := S.blk X') rfl rfl rfl q) (w.imp (fun _ z => z) fun _ z => z.elim))⟩
theorem pg_u {e : Expr} {is : List Nat} {f : Tg} (h : XG (S.blk X') e is f) : PG X' e (uG S is f) :=
  let ⟨_, a1, a2⟩ := h; ⟨fun pins s σ H v u Q I r ⟨H0, G0, G, ρ, d, q, rd, w⟩ => a1.run pins s σ H v u Q I r (a2 H0 G0 σ H G ρ v d Q (Ok.conv (S := S) (S' := S.blk X') rfl rfl rfl q) rd (w.imp (fun ρ' z σ' t => z σ' ⟨Ok.conv (S := S.blk X') (S' := S) rfl rfl rfl t.ok, t.out, t.len⟩) fun _ z => z))⟩
theorem Ok.wipe {H0 G0 H G : Hp} {σ : St} {ρ : Rho} (q : Ok S H0 G0 σ H G ρ) : ∀ vs : List Nat, Ok S H0 G0 (L2.wipe σ vs) H G (wipeR ρ vs)
  | [] => q
  | v :: vs => (q.wipe vs).setG rfl trivial
theorem wipe_get {σ : St} {j : Nat} : ∀ {vs : List Nat}, j ∈ vs → (L2.wipe σ vs)[j]? = if j < σ.length then some none else none
  | v :: vs, h => by
    show ((L2.wipe σ vs).set v none)[j]? = _
    rw [List.getElem?_set]
    by_cases e : v = j
    · subst e
      rw [if_pos rfl, wipe_length]
    · rw [if_neg e]
      rcases List.mem_cons.mp h with z | z
      · exact absurd z.symm e
      · exact wipe_get z
theorem wipe_same {σ σ2 : St} {vs is : List Nat} (hs : ∀ j ∈ is, j ∈ vs) (ho : ∀ j, j ∉ is → σ2[j]? = (L2.wipe σ vs)[j]?) (hl : σ2.length = (L2.wipe σ vs).length) : L2.wipe σ2 vs = L2.wipe σ vs := by
  apply List.ext_getElem?
  intro j
  rw [wipe_length] at hl
  by_cases h : j ∈ vs
  · rw [wipe_get h, wipe_get h, hl]
  · rw [wipe_out h]
    exact ho j fun z => h (hs j z)
theorem Step.atD {H1 G1 H G : Hp} {D : Addr} {o : HO} (s : Step H1 G1 H G) (h : H1 D = none) (g : G D = none) : Step H1 G1 (upd H D o) G where
  hh := fun a u e => by
    rw [upd_ne (ne_of_none e h)]
    exact s.hh a u e
  gg := s.gg
  sub := fun a u e => by
    rw [upd_ne (ne_of_none e g)]
    exact s.sub a u e
  sep := s.sep
theorem tv_comp {wi : TI} {is vs : List Nat} {f : Rho → Rs (List D)} {tg : Tg} {c : Rho → Rs Bool} {e : Rho → Rs D} (hs : ∀ j ∈ is, j ∈ vs)
    (hi : ∀ H0 G0 σ H G ρ (R : It → Hp → Prop), Ok S H0 G0 σ H G ρ → Wp (f ρ) (fun ds => ∀ J H' G', Step H G H' G' → ItOk J G' ds → R J H') (ExW S σ H G) → wi σ H R) :
    TV S .o (tLc wi (uG S is tg) (uT S c) (uE S .e e) vs) (fComp vs f tg c e) := fun H0 G0 σ H G ρ Q q w => by
  refine hi H0 G0 σ H G ρ _ q (Wp.imp (Wp.bind w) (fun ds wd J H1 G1 s1 it => ?_) fun _ z => z)
  have qw := (q.step s1).wipe vs
  by_cases hl : ds.length ≤ sizeLine
  · rw [if_pos hl] at wd
    cases ec : compS tg c e (wipeR ρ vs) ds with
    | exc er => rw [ec] at wd; exact wd.elim
    | stuck => rw [ec] at wd; exact wd.elim
    | ok res =>
      rw [ec] at wd
      have wd := wp_ok wd
      intro Da hD
      have gD : G1 Da = none := Same.free s1.sub hD
      refine ⟨fun i m Hc => m = ds.length - i ∧ i ≤ ds.length ∧ ∃ Gc acc accD rest, Step H1 G1 Hc Gc ∧ Hc Da = some (.lst acc) ∧ Gc Da = none ∧ RpL Gc acc accD ∧ acc.length ≤ i ∧ compS tg c e (wipeR ρ vs) (ds.drop i) = .ok rest ∧ accD ++ rest = res,
        ⟨ds.length, by simp, Nat.zero_le _, G1, [], [], res, Step.newO s1.sub hD, upd_same, gD, .nil, Nat.le_refl _, ec, rfl⟩, ?_⟩
      rintro i m Hc ⟨rfl, hle, Gc, acc, accD, rest, st, hA, gA, rA, lA, eR, eA⟩
      have sb := st.sub
      by_cases hlt : i < ds.length
      · obtain ⟨go, tn⟩ := (it i Hc Gc st.gg sb).2 ds[i] (List.getElem?_eq_getElem hlt)
        rw [List.drop_eq_getElem_cons hlt] at eR
        refine .inr ⟨go, fun H' => ∃ Gc acc accD rest, Step H1 G1 H' Gc ∧ H' Da = some (.lst acc) ∧ Gc Da = none ∧ RpL Gc acc accD ∧ acc.length ≤ i + 1 ∧ compS tg c e (wipeR ρ vs) (ds.drop (i + 1)) = .ok rest ∧ accD ++ rest = res,
          fun H' z => ⟨ds.length - (i + 1), by omega, rfl, hlt, z⟩, fun x H' y => ?_⟩
        obtain ⟨G', s', r'⟩ := tn x H' y
        unfold compS at eR
        have q' := qw.step (st.trans s')
        refine ⟨H0, G0, G', wipeR ρ vs, ds[i], q', r', ?_⟩
        cases e1 : tg ds[i] (wipeR ρ vs) with
        | exc _ => rw [e1] at eR; cases eR
        | stuck => rw [e1] at eR; cases eR
        | ok ρ1 =>
          rw [e1] at eR
          intro σ' te
          refine ⟨wipe_same hs te.out te.len, ⟨H0, G0, G', ρ1, te.ok, ?_⟩⟩
          cases e2 : c ρ1 with
          | exc _ => simp only [e2] at eR; cases eR
          | stuck => simp only [e2] at eR; cases eR
          | ok b =>
            intro H2 G2 s2
            cases b with
            | false =>
              simp only [e2] at eR
              refine iteF ?_
              have s3 := s'.trans s2
              exact ⟨G2, acc, accD, rest, st.trans s3, s3.hh _ _ hA, s3.sep Da gA (by rw [hA]; exact Option.some_ne_none _), rA.mono s3.gg, Nat.le_succ_of_le lA, eR, eA⟩
            | true =>
              simp only [e2] at eR
              refine iteT ⟨H0, G0, G2, ρ1, te.ok.step s2, ?_⟩
              cases e3 : e ρ1 with
              | exc _ => simp only [e3] at eR; cases eR
              | stuck => simp only [e3] at eR; cases eR
              | ok y =>
                simp only [e3] at eR
                intro v H4 G4 s4 r4
                have s5 := s'.trans (s2.trans s4)
                have st5 := st.trans s5
                have g5 := s5.sep Da gA (by rw [hA]; exact Option.some_ne_none _)
                refine ⟨acc, s5.hh _ _ hA, Nat.lt_of_le_of_lt lA (Nat.lt_of_lt_of_le hlt hl), ?_⟩
                cases e4 : compS tg c e (wipeR ρ vs) (ds.drop (i + 1)) with
                | exc _ => rw [e4] at eR; cases eR
                | stuck => rw [e4] at eR; cases eR
                | ok r5 =>
                  rw [e4] at eR
                  have eR : Rs.ok (y :: r5) = Rs.ok rest := eR
                  cases eR
                  refine ⟨G4, acc ++ [v], accD ++ [y], r5, st5.atD hD g5, upd_same, g5, (rA.mono s5.gg).append (.cons r4 .nil), by rw [List.length_append]; exact Nat.succ_le_succ lA, rfl, ?_⟩
                  rw [List.append_assoc]
                  exact eA
      · have : i = ds.length := by omega
        subst this
        rw [List.drop_length] at eR
        have eR : Rs.ok ([] : List D) = Rs.ok rest := eR
        cases eR
        rw [List.append_nil] at eA
        subst eA
        exact .inl ⟨(it _ Hc Gc st.gg sb).1 (Nat.le_refl _), wd _ Hc Gc (s1.trans st) ⟨Da, acc, accD, rfl, rfl, hA, Same.free s1.hh hD, gA, rA⟩⟩
  · rw [if_neg hl] at wd
    exact wd.elim
theorem xcomp {ex tge iter : Expr} {is vs : List Nat} {f : Rho → Rs (List D)} {tg : Tg} {c : Rho → Rs Bool} {e : Rho → Rs D} (hs : ∀ j ∈ is, j ∈ vs)
    (hp : ∀ wi, PI S.X tge iter wi → PE S.X ex (tLc wi (uG S is tg) (uT S c) (uE S .e e) vs)) (h1 : XI S tge iter f) : XX S .o ex (fComp vs f tg c e) :=
  let ⟨_, a1, a2⟩ := h1; ⟨_, hp _ a1, tv_comp hs a2⟩
theorem xs_comp {kd : Kd} {st : Stmt} {i : Nat} {tge iter : Expr} {is vs : List Nat} {f : Rho → Rs (List D)} {tg : Tg} {c : Rho → Rs Bool} {e : Rho → Rs D} (hs : ∀ j ∈ is, j ∈ vs)
    (hp : ∀ wi, PI S.X tge iter wi → PS S.X st (tAsg (tLc wi (uG S is tg) (uT S c) (uE S .e e) vs) (gName i))) (h1 : XI S tge iter f) : XS S kd st (fAsg i (fComp vs f tg c e)) :=
  let ⟨_, a1, a2⟩ := h1; ⟨_, hp _ a1, ts_set (TV.o_e (tv_comp hs a2))⟩
end

def SpF (ca : Nat → Addr) (cf : Nat → List Str) (kd : Kd) (n : Nat) (f : List D → Rs D) : Sp := fun vs H Q E => vs.length = n ∧ ∃ G ds, Same G H ∧ RpL G vs ds ∧
  Wp (f ds) (fun d => ∀ v H' G', Step H G H' G' → RK kd H H' G' v d → Q v H') (fun er => ∀ c dd H' G', Step H G H' G' → ErR ca cf G' er c dd → E c dd H')
def startR (n : Nat) (ds : List D) : Rho := ds.map Sl.va ++ List.replicate (n - ds.length) Sl.un
def Out.res (own : Bool) : Out → Rs D
  | .nx _ => if own = true then .stuck else .ok .none
  | .ret d => .ok d
  | .exc e _ => .exc e
  | _ => .stuck
def runB (own : Bool) (m n : Nat) (g : Rho → Out) (ds : List D) : Rs D := if ds.length = m then (g (startR n ds)).res own else .stuck
theorem runB_len {own : Bool} {m n : Nat} {g : Rho → Out} (ds : List D) (h : ds.length ≠ m) : runB own m n g ds = .stuck := if_neg h
theorem start_no {n : Nat} {ds : List D} {i : Nat} {x : Sl} (e : (startR n ds)[i]? = some x) : isOwn x = false := by
  have m := List.mem_of_getElem? e
  unfold startR at m
  rcases List.mem_append.mp m with m | m
  · obtain ⟨d, _, rfl⟩ := List.mem_map.mp m
    rfl
  · rw [(List.mem_replicate.mp m).2]
    rfl
theorem start_ok {S : Sx} {H G : Hp} {vs : List V} {ds : List D} {N : List Str} (s : Same G H) (r : RpL G vs ds) : Ok S H G (L2.start N vs) H G (startR N.length ds) where
  st := Step.refl s
  len := by
    unfold L2.start startR
    rw [List.length_append, List.length_append, List.length_map, List.length_map, List.length_replicate, List.length_replicate, r.length]
  sl := fun i t e => by
    unfold startR at e
    unfold L2.start
    by_cases h : i < ds.length
    · rw [List.getElem?_append_left (by rw [List.length_map]; exact h)] at e
      rw [List.getElem?_append_left (by rw [List.length_map, r.length]; exact h)]
      rw [List.getElem?_map] at e ⊢
      cases ed : ds[i]? with
      | none => rw [ed] at e; cases e
      | some d =>
        rw [ed] at e
        cases e
        obtain ⟨v, ev, rv⟩ := r.get ed
        rw [ev]
        exact ⟨_, rfl, v, rfl, rv⟩
    · rw [List.getElem?_append_right (by rw [List.length_map]; omega), List.length_map] at e
      rw [List.getElem?_append_right (by rw [List.length_map, r.length]; omega), List.length_map, r.length]
      have z : i - ds.length < N.length - ds.length := by
        have := (List.getElem?_eq_some_iff.mp e).1
        rw [List.length_replicate] at this
        exact this
      rw [List.getElem?_replicate, if_pos z] at e ⊢
      cases e
      exact ⟨none, rfl, trivial⟩
  sep := fun i j a b p ne ea eb fa fb => by
    have oa := fa.own
    rw [start_no ea] at oa
    cases oa
  pin := fun i v s _ e o => by
    rw [start_no e] at o
    cases o
theorem fn_body {P : Program} {w : World} {K : PySem.W.Frag} {mg : Str → Option Value} {base : Heap} {x qual : Str} {st : Stmt} {a : Addr} {fd : FuncData} {N ps : List Str} {k : Nat} {ca : Nat → Addr} {cf : Nat → List Str} {own : Bool} {kd : Kd} {g : Rho → Out}
    (F : Fun K x qual st a fd) (Sc : FnScope N ps (defScope st))
    (hb : ∀ (cdv : Value) (A : Around) (outer : List PySem.Env) (s : Shared) (H : Hp) (E : XK), Room k (A.deeper (envOfC qual (defScope st) s.heap.objs.size a cdv)) →
      XSs ⟨cxOf (L2.CX P w) P w K mg base N qual (defScope st) a cdv A outer s H E, fun cls d _ H => E cls d H, ca, cf, none, io0⟩ kd (defBody st) g) (hk : own = false → kd = .e := by first | exact fun _ => rfl | exact (fun h => nomatch h)) :
    FnOk P w K mg base (L2.CX P w) (k + 1) a fd ps (SpF ca cf kd ps.length (runB own ps.length N.length g)) := by
  refine F.okX Sc (fun vs H Q E h => h.1) (fun cdv A outer s H vs Q E hr h => ?_)
  obtain ⟨hl, G, ds, sg, r, w'⟩ := h
  obtain ⟨t, a1, a2⟩ := hb cdv A outer s H E hr
  refine ⟨t, a1, a2 H G _ H G _ _ (start_ok sg r) ?_⟩
  unfold runB at w'
  rw [if_pos (r.length.symm.trans hl)] at w'
  cases e : g (startR N.length ds) with
  | nx ρ =>
    rw [e] at w'
    intro σ' H' G' q
    cases own with
    | true => exact w'.elim
    | false =>
      cases hk rfl
      exact w' .non H' G' q.st .non
  | ret d => rw [e] at w'; exact fun v H' G' s' r' => w' v H' G' s' r'
  | exc er ρ => rw [e] at w'; exact fun c dd σ' H' G' q er' => w' c dd H' G' q.st er'
  | brk ρ => rw [e] at w'; exact w'.elim
  | ct ρ => rw [e] at w'; exact w'.elim
  | stuck => rw [e] at w'; exact w'.elim
end Ct

namespace Ct
open PySem PySem.Spec PyProof.Rows L2

structure Df (P : Program) (w : World) (K : PySem.W.Frag) (mg : Str → Option Value) (base : Heap) (ca : Nat → Addr) (cf : Nat → List Str) (k : Nat) (x : Str) (a : Addr) (fd : FuncData) (ps : List Str) (kd : Kd) (f : List D → Rs D) : Prop where
  ok : FnOk P w K mg base (L2.CX P w) k a fd ps (SpF ca cf kd ps.length f)
  gm : mg x = some (.ref a)
  kp : PySem.W.keepIn K (.ref a) = true
  len : ∀ ds, ds.length ≠ ps.length → f ds = .stuck
def BindD (K : PySem.W.Frag) (fd : FuncData) (ps : List Str) (d : D) : Prop := ∃ ds v, (∀ G, Rp G v d) ∧ Vals [v] ds ∧ Binds K fd ps ds
section
variable {X : Cx} {CX : CXT} {k : Nat} {a : Addr} {fd : FuncData} {ps : List Str} {sp : Sp} {E : L2.St → XK} {x y : Str} {p pos : Pos} {e e2 : Expr} {es : List Expr} {t : TA} {te : TE} {ds : List Value} {dvs : List V}
theorem run_g {pins : List (Addr × Obj)} {σ : L2.St} {H : Hp} {s : Shared} {Q : VK} {args : Args} {us : List Value} {vs : List V} (F : FnOk X.prog X.w X.K X.mg X.base CX k a fd ps sp) (hr : Room k X.A) (hb : BindsTo s fd args (ps.zip us)) (hx : PassesAt CX X σ (E σ))
    (J : Inv X pins σ H s) (rv : Vals vs us) (q : sp vs H Q (E σ)) : wpAny (model X.prog X.w) X.A (call (.ref a) args.pos args.kw) (EP X pins σ Q) X.xe s := by
  have main := F.run X.A X.stack s H args us vs Q (E σ) hr J.env0 hb rv q
  refine wpAny_call (codeAny_mono main fun out s2 ho => ?_)
  match out, ho with
  | .error er, ho => exact hx pins H s er s2 J ho
  | .ok (.ret _), ho => exact J.after ho
theorem pe_cg (F : FnOk X.prog X.w X.K X.mg X.base CX k a fd ps sp) (hr : Room k X.A) (hg : Gl X x) (hm : X.mg x = some (.ref a)) (hk : PySem.W.keepIn X.K (.ref a) = true) (hb : Binds X.K fd ps ds) (hd : Vals dvs ds) (hx : ∀ σ, PassesAt CX X σ (E σ))
    (ha : PA X (e :: es) t) (hdb : (x == ("__debug__" : Str)) = false) (he : starEach (e :: es) X.env = (false, eval e X.env) :: starEach es X.env) (hpl : (backTo pos (starEach es X.env)).any (·.1) = false) :
    PE X (.Call (.Name x p) (e :: es) [] pos) (fun σ H Q => t σ H fun vs H1 => sp (vs ++ dvs) H1 Q (E σ)) := ⟨fun pins s σ H Q J q => by
  refine wpAny_Call_Name_kw (ld_glob J hg hm ?_ hdb)
  refine PySem.W.callWith_K (h₀ := X.base) J.ok.mod.kin hk (thn (ha.run pos pins s σ H _ J q) fun us s1 z => ?_) he hpl
  obtain ⟨vs, H1, J1, rv, q1⟩ := z
  have rv2 : Vals (vs ++ dvs) (us ++ ds) := rv.append hd
  exact ⟨J1.kIn, run_g (args := ⟨us, []⟩) F hr (hb s1 us J1.kIn (rv2.length.symm.trans (F.len _ _ _ _ q1))) (hx σ) J1 rv2 q1⟩⟩
end

def fCall (f : List D → Rs D) (g : Rho → Rs (List D)) : Rho → Rs D := fun ρ => (g ρ).bind f
def fCallD (f : List D → Rs D) (d : D) (g : Rho → Rs (List D)) : Rho → Rs D := fun ρ => (g ρ).bind fun ds => f (ds ++ [d])
def fCallK (f : List D → Rs D) (g : Rho → Rs (List D)) (h : Rho → Rs D) : Rho → Rs D := fun ρ => (g ρ).bind fun ds => (h ρ).bind fun d => f (ds ++ [d])
section
variable {S : Sx} {k : Nat} {a : Addr} {fd : FuncData} {ps : List Str} {kd : Kd} {f : List D → Rs D} {x y : Str} {p pos kpos : Pos} {e e2 : Expr} {es : List Expr} {g : Rho → Rs (List D)} {h : Rho → Rs D}
theorem sp_call {S : Sx} {n : Nat} {kd : Kd} {f : List D → Rs D} {H G H1 G1 : Hp} {σ : St} {Q : VK} {vs : List V} {ds : List D} (s1 : Step H G H1 G1) (r : RpL G1 vs ds) (hl : vs.length = n)
    (w : Wp (f ds) (fun d => ∀ v H' G', Step H G H' G' → RK kd H H' G' v d → Q v H') (ExW S σ H G)) : SpF S.ca S.cf kd n f vs H1 Q (WE S.W σ) :=
  ⟨hl, G1, ds, s1.sub, r, Wp.imp w (fun d q v H' G' s' r' => q v H' G' (s1.trans s') (r'.anti s1.hh)) fun er z c dd H' G' s' r' => z c dd H' G' (s1.trans s') r'⟩
def kdB : Kd → Prop
  | .e => True
  | .o => True
  | .w k => k.full = true
  | _ => False
theorem sp_callb {S : Sx} {n : Nat} {kd : Kd} {f : List D → Rs D} {H G H1 G1 : Hp} {σ : St} {Q : VK} {vs : List V} {ds : List D} (hk : kdB kd) (s1 : Step H G H1 G1) (r : RpL H1 vs ds) (hl : vs.length = n)
    (w : Wp (f ds) (fun d => ∀ v H' G', Step H G H' G' → RK .b H H' G' v d → Q v H') (fun _ => False)) : SpF S.ca S.cf kd n f vs H1 Q (WE S.W σ) :=
  ⟨hl, H1, ds, Same.refl _, r, Wp.imp w (fun d q v H' G' s' r' => by
    have st : Step H1 G1 H' G1 := ⟨s'.hh, Same.refl _, s1.sub.trans s'.hh, fun _ z _ => z⟩
    refine q v H' G1 (s1.trans st) ?_
    cases kd with
    | e => exact Rp.mono s'.sub r'
    | o =>
      obtain ⟨p, ws, es, rfl, rfl, h1, h2, h3, h4⟩ := r'
      exact .lst h1 (h4.mono s'.sub)
    | i _ _ _ => exact hk.elim
    | w k =>
      obtain ⟨fp, h1, h2, h3⟩ := r'
      exact h1.rp s'.sub hk
    | s => exact hk.elim
    | b => exact hk.elim
    | d => exact hk.elim
    | m => exact hk.elim) fun _ z => z.elim⟩
def noE {α : Type} (r : Rs α) : Rs α := match r with
  | .exc _ => .stuck
  | r => r
theorem noE_wp {α : Type} {r : Rs α} {P : α → Prop} {E : Er → Prop} (w : Wp (noE r) P E) : Wp r P (fun _ => False) := by
  cases r with
  | ok a => exact w
  | exc e => exact w.elim
  | stuck => exact w
def fCallB (f : List D → Rs D) (g : Rho → Rs (List D)) : Rho → Rs D := fun ρ => (g ρ).bind fun ds => noE (f ds)
theorem Df.args {P : Program} {w : World} {K : PySem.W.Frag} {mg : Str → Option Value} {base : Heap} {ca : Nat → Addr} {cf : Nat → List Str} (C : Df P w K mg base ca cf k x a fd ps kd f) {ds : List D} {Pq : D → Prop} {Eq' : Er → Prop} (w : Wp (f ds) Pq Eq') : ds.length = ps.length := by
  by_cases h : ds.length = ps.length
  · exact h
  · rw [C.len ds h] at w
    exact w.elim
theorem xcall (C : Df S.X.prog S.X.w S.X.K S.X.mg S.X.base S.ca S.cf k x a fd ps kd f) (hb : Binds S.X.K fd ps []) (hr : Room k S.X.A) (tk : Takes S.X S.W) (ha : XA S .e (e :: es) g) (hg : Gl S.X x := by rfl)
    (hdb : (x == ("__debug__" : Str)) = false := by decide) (he : starEach (e :: es) S.X.env = (false, eval e S.X.env) :: starEach es S.X.env := by rfl) (hpl : (backTo pos (starEach es S.X.env)).any (·.1) = false := by rfl) :
    XX S kd (.Call (.Name x p) (e :: es) [] pos) (fCall f g) :=
  let ⟨t, a1, a2⟩ := ha
  ⟨_, pe_cg (E := WE S.W) C.ok hr hg C.gm C.kp hb .nil (fun σ => passAt tk σ) a1 hdb he hpl, fun H0 G0 σ H G ρ Q q w => by
    refine a2 H0 G0 σ H G ρ _ q (Wp.imp (Wp.bind w) (fun ds wd vs H1 G1 s1 r1 => ?_) fun _ z => z)
    rw [List.append_nil]
    exact sp_call s1 r1 ((RpL.length r1).trans (C.args wd)) wd⟩
theorem xcallB (C : Df S.X.prog S.X.w S.X.K S.X.mg S.X.base S.ca S.cf k x a fd ps kd f) (hb : Binds S.X.K fd ps []) (hr : Room k S.X.A) (tk : Takes S.X S.W) (ha : XA S .b (e :: es) g) (hk : kdB kd := by first | exact trivial | rfl) (hg : Gl S.X x := by rfl)
    (hdb : (x == ("__debug__" : Str)) = false := by decide) (he : starEach (e :: es) S.X.env = (false, eval e S.X.env) :: starEach es S.X.env := by rfl) (hpl : (backTo pos (starEach es S.X.env)).any (·.1) = false := by rfl) :
    XX S .b (.Call (.Name x p) (e :: es) [] pos) (fCallB f g) :=
  let ⟨t, a1, a2⟩ := ha
  ⟨_, pe_cg (E := WE S.W) C.ok hr hg C.gm C.kp hb .nil (fun σ => passAt tk σ) a1 hdb he hpl, fun H0 G0 σ H G ρ Q q w => by
    refine a2 H0 G0 σ H G ρ _ q (Wp.imp (Wp.bind w) (fun ds wd vs H1 G1 s1 r1 => ?_) fun _ z => z)
    rw [List.append_nil]
    have wd := noE_wp wd
    exact sp_callb hk s1 r1 ((RpL.length r1).trans (C.args wd)) wd⟩
theorem xcallD {d : D} (C : Df S.X.prog S.X.w S.X.K S.X.mg S.X.base S.ca S.cf k x a fd ps kd f) (hb : BindD S.X.K fd ps d) (hr : Room k S.X.A) (tk : Takes S.X S.W) (ha : XA S .e (e :: es) g) (hg : Gl S.X x := by rfl)
    (hdb : (x == ("__debug__" : Str)) = false := by decide) (he : starEach (e :: es) S.X.env = (false, eval e S.X.env) :: starEach es S.X.env := by rfl) (hpl : (backTo pos (starEach es S.X.env)).any (·.1) = false := by rfl) :
    XX S kd (.Call (.Name x p) (e :: es) [] pos) (fCallD f d g) := by
  obtain ⟨t, a1, a2⟩ := ha
  obtain ⟨ds', v, hv, hv2, hb⟩ := hb
  refine ⟨_, pe_cg (E := WE S.W) C.ok hr hg C.gm C.kp hb hv2 (fun σ => passAt tk σ) a1 hdb he hpl, fun H0 G0 σ H G ρ Q q w => ?_⟩
  refine a2 H0 G0 σ H G ρ _ q (Wp.imp (Wp.bind w) (fun ds wd vs H1 G1 s1 r1 => ?_) fun _ z => z)
  have r2 : RpL G1 (vs ++ [v]) (ds ++ [d]) := RpL.append r1 (.cons (hv G1) .nil)
  exact sp_call s1 r2 (r2.length.trans (C.args wd)) wd
theorem xcallE (C : Df S.X.prog S.X.w S.X.K S.X.mg S.X.base S.ca S.cf k x a fd ps .e f) (hb : Binds S.X.K fd ps []) (hr : Room k S.X.A) (tk : Takes S.X S.W) (ha : XA S .e (e :: es) g) (hg : Gl S.X x := by rfl)
    (hdb : (x == ("__debug__" : Str)) = false := by decide) (he : starEach (e :: es) S.X.env = (false, eval e S.X.env) :: starEach es S.X.env := by rfl) (hpl : (backTo pos (starEach es S.X.env)).any (·.1) = false := by rfl) :
    XX S .e (.Call (.Name x p) (e :: es) [] pos) (fCall f g) := xcall (kd := .e) C hb hr tk ha hg hdb he hpl
theorem xcallO (C : Df S.X.prog S.X.w S.X.K S.X.mg S.X.base S.ca S.cf k x a fd ps .o f) (hb : Binds S.X.K fd ps []) (hr : Room k S.X.A) (tk : Takes S.X S.W) (ha : XA S .e (e :: es) g) (hg : Gl S.X x := by rfl)
    (hdb : (x == ("__debug__" : Str)) = false := by decide) (he : starEach (e :: es) S.X.env = (false, eval e S.X.env) :: starEach es S.X.env := by rfl) (hpl : (backTo pos (starEach es S.X.env)).any (·.1) = false := by rfl) :
    XX S .o (.Call (.Name x p) (e :: es) [] pos) (fCall f g) := xcall (kd := .o) C hb hr tk ha hg hdb he hpl
theorem xcallDE {d : D} (C : Df S.X.prog S.X.w S.X.K S.X.mg S.X.base S.ca S.cf k x a fd ps .e f) (hb : BindD S.X.K fd ps d) (hr : Room k S.X.A) (tk : Takes S.X S.W) (ha : XA S .e (e :: es) g) (hg : Gl S.X x := by rfl)
    (hdb : (x == ("__debug__" : Str)) = false := by decide) (he : starEach (e :: es) S.X.env = (false, eval e S.X.env) :: starEach es S.X.env := by rfl) (hpl : (backTo pos (starEach es S.X.env)).any (·.1) = false := by rfl) :
    XX S .e (.Call (.Name x p) (e :: es) [] pos) (fCallD f d g) := xcallD (kd := .e) C hb hr tk ha hg hdb he hpl
theorem xcallW {sh : Sh} (C : Df S.X.prog S.X.w S.X.K S.X.mg S.X.base S.ca S.cf k x a fd ps (.w sh) f) (hb : Binds S.X.K fd ps []) (hr : Room k S.X.A) (tk : Takes S.X S.W) (ha : XA S .e (e :: es) g) (hg : Gl S.X x := by rfl)
    (hdb : (x == ("__debug__" : Str)) = false := by decide) (he : starEach (e :: es) S.X.env = (false, eval e S.X.env) :: starEach es S.X.env := by rfl) (hpl : (backTo pos (starEach es S.X.env)).any (·.1) = false := by rfl) :
    XX S (.w sh) (.Call (.Name x p) (e :: es) [] pos) (fCall f g) := xcall (kd := .w sh) C hb hr tk ha hg hdb he hpl
end
end Ct

namespace Ct
open PySem PySem.W PySem.Calls PyProof.Rows PySem.HandSPX

def iArgs (ps : List (Str × Pos)) : Arguments := { posonlyargs := [], args := ps.map fun p => { arg := p.1, annotation := none, pos := p.2 }, vararg := none, kwonlyargs := [], kw_defaults := [], kwarg := none, defaults := [] }
def iSup (msg : Str) (j : Nat) (p0 p1 p2 p3 p4 p5 : Pos) : Stmt := .Expr (.Call (.Attribute (.Call (.Name "super" p0) [] [] p1) "__init__" p2) [.Constant (.str msg) j p3] [] p4) p5
def iAsg (f : Str) (q1 q2 q3 q4 : Pos) : Stmt := .Assign [.Attribute (.Name "self" q1) f q2] (.Name f q3) q4
def iScope (ps : List Str) : Scope := { kind := .function, names := ps.map (fun p => (p, NameKind.local)) ++ [(PySem.Str.ofString "__class__", .free), (PySem.Str.ofString "super", .globalImplicit)], isGenerator := false, isCoroutine := false, more := [] }
structure ExTxt (prog : Program) (K : Frag) (mg : Str → Option Value) (C fI : Addr) (x : Str) (fs : List Str) (body : List Stmt) : Prop where
  gC : mg x = some (.ref C)
  cls : ∃ nm q N bs bm sn sub ab col dd k0 k1 k2 k3 k5, K.lookup C = some (excClassObj nm q C N bs bm true sn sub ab col dd k0 k1 k2 k3 k5 "ValueError.__new__") ∧ refsVE bm = true
  sa : findIn K (.ref C) "__setattr__" = some (some (.builtin "object.__setattr__"))
  ga : findIn K (.ref C) "__getattribute__" = some (some (.builtin "BaseException.__getattribute__"))
  gg : findIn K (.ref C) "__getattr__" = some none
  noF : ∀ f ∈ fs, findIn K (.ref C) f = some none
  iC : findIn K (.ref C) "__init__" = some (some (.ref fI))
  tC : typeIn K (.ref fI) = some (.type "function")
  kC : keepIn K (.ref C) = true
  exC : subIn K (.ref C) (.type "BaseException") = some true
  veC : subIn K (.ref C) (.type "ValueError") = some true
  tyC : typeIn K (.ref C) = some (.type "type")
  hdC : hasDictIn K C = true
  mC : mroIn K C (.ref C) = some true
  supI : ks_superIn K C C "__init__" = some (some (.builtin "ValueError.__init__"))
  opq : nsIn K cStatics "thirdparty.any" = some none
  supG : mg "super" = none
  top : (prog.main.scope.names.lookup ("super" : Str)).isSome = false
  fn : ∃ (oc : Value) (od : Option Addr) (qual : Str) (ps : List Pos) (dV kV doc pm : Value) (an : Option Addr) (cda : Addr) (ct : Value) (cc : Addr) (osl : Array (Option Value)) (ccl cl : Value) (cdd cld : Option Addr) (vs : Array Value) (ccs csl : Array (Option Value)) (file : Str) (tf : Tok),
    ps.length = fs.length + 1 ∧ K.lookup fI = some ⟨oc, od, .func (ksFn "__init__" qual (iArgs ((("self" : Str) :: fs).zip ps)) body (iScope (("self" : Str) :: fs)) .none kV doc pm an (.ref cda) ct cc), osl⟩ ∧ codeIn K (.ref cda) qual = true ∧
    K.lookup cda = some ⟨ccl, cdd, .fields vs, ccs⟩ ∧ vs[2]? = some (.str file tf) ∧ ((prog.main.file : Str) == file) = true ∧ K.lookup cc = some ⟨cl, cld, .cell (some (.ref C)), csl⟩

section
variable {prog : Program} {w : World} {A : Around} {E : Value → Shared → Prop} {h : Heap} {g : Array GenState} {d : Drawn} {t : Nat} {os : OsState} {K : Frag}
theorem mw_call {nm q : Str} {C N u e t0 : Addr} {bs bm : List Value} {hdct : Bool} {sn : List Str} {sub : List Value} {ab : Bool} {col : Option Bool} {dd : Option Addr} {k0 k1 k2 k3 k5 : Option Value} {rest : List Value} {Q : Value → Shared → Prop}
    (ec : h.get? C = some (excClassObj nm q C N bs bm hdct sn sub ab col dd k0 k1 k2 k3 k5 "ValueError.__new__")) (ee : h.get? e = some (excO C t0)) (eu : h.get? u = some (kxs_mw "ValueError.__init__" e)) (hr : rest.length ≤ sizeLine)
    (fin : ∀ h' t1, (∀ b o, b ≠ e → h.get? b = some o → h'.get? b = some o) → h'.get? e = some (excO C t1) → Q .none ⟨h', g, d, t, os⟩) :
    wpAny (model prog w) A (call (.ref u) rest) Q E ⟨h, g, d, t, os⟩ := by
  have FB := PySem.F.excBase_ValueError
  have isW : (Value.type "method-wrapper" == Value.type "method" || Value.type "method-wrapper" == Value.type "builtin_function_or_method" || Value.type "method-wrapper" == Value.type "method-wrapper") = true := by decide
  apply wpAny_call
  apply codeAny_of_tree
  show wpAny _ A.in1 (callAny (.ref u) ⟨rest, []⟩) _ _ _
  unfold callAny
  apply wpAny_bind
  refine wpAny_load eu ?_
  dsimp only [kxs_mw]
  refine KFB.if_so isW ?_
  apply wpAny_bind
  refine check_bound_init FB.toExcCallFacts ec ee rfl ?_
  refine wpAny_pure ?_
  refine ⟨Code.quiet_builtin _ (by decide +kernel), codeAny_builtin FB.initEntry ?_⟩
  rw [Around.under_plainId FB.init.plain _]
  refine exc_init_tree (cls := .ref C) (t0 := t0) (dv := none) (c2 := .none) (c3 := .none) (b4 := .bool false) ee hr fun h' k1 k2 _ => ?_
  exact fin h' _ k1 k2
theorem nm_local {M : Model} {s : Shared} {env : Env} {m : Str → Option Value} {x : Str} {pos : Pos} {v : Value} {Q : Value → Shared → Prop} (hn : s.heap.Ns env.locals m) (hv : m x = some v) (q : Q v s) (hk : env.scope.kind = .function) (hl : env.kindOf x = some .local) (hd : (x == ("__debug__" : Str)) = false) :
    wpAny M A (eval (.Name x pos) env) Q E s := wpAny_Name (wpAny_loadName_local hk hl hn hv q) hd
structure IEnd (h h' : Heap) (x C : Addr) (fm : Str → Option Value) : Prop where
  keep : ∀ b o, b ≠ x → h.get? b = some o → h'.get? b = some o
  ex : ∃ dx t1, h'.get? x = some { cls := .ref C, dict := some dx, data := .fields #[.ref t1, .none, .none, .none, .bool false, .none] } ∧ h.objs.size ≤ dx ∧ dx ≠ x ∧ h'.Ns1 dx fm
theorem sup_step {body rest : List Stmt} {qual : Str} {L fI cda cc x C t0 : Addr} {m mg : Str → Option Value} {fd : FuncData} {ar : Arg} {msg : Str} {j : Nat} {p0 p1 p2 p3 p4 p5 : Pos} {vs : Array Value} {file : Str} {tf : Tok} {oc ccl cl : Value} {od cdd cld : Option Addr} {osl ccs csl : Array (Option Value)} {Q : Flow → Shared → Prop} {fs ps : List Str} {nmC : Str} {fb : List Stmt}
    (T : ExTxt prog K mg C fI nmC fs fb) (X : K.In h) (hn : h.Ns L m) (hG : h.Ns mainGlobals mg) (hB : ∃ mb, h.Ns builtinsNs mb ∧ ∀ y : Str, y ≠ "__name__" → mb y = bootBuiltins y)
    (hf : K.lookup fI = some ⟨oc, od, .func fd, osl⟩) (hp : (fd.params.posonlyargs ++ fd.params.args).head? = some ar) (hv : m ar.arg = some (.ref x)) (hx : h.get? x = some (excO C t0))
    (hcode : K.lookup cda = some ⟨ccl, cdd, .fields vs, ccs⟩) (hvs : vs[2]? = some (.str file tf)) (hfile : ((prog.main.file : Str) == file) = true) (hcell : K.lookup cc = some ⟨cl, cld, .cell (some (.ref C)), csl⟩)
    (hks : (iScope ps).names.lookup ("super" : Str) = some .globalImplicit) (hkc : (iScope ps).names.lookup ("__class__" : Str) = some .free) (hka : (iScope ps).names.lookup ar.arg = some .local) (hx0 : K.lookup x = none)
    (he : ∃ pl, eval (.Call (.Attribute (.Call (.Name "super" p0) [] [] p1) "__init__" p2) [.Constant (.str msg) j p3] [] p4) (ksEnv qual (iScope ps) L fI (.ref cda) cc) = (do
      let ov ← attributeBase (.Call (.Name "super" p0) [] [] p1) "__init__" (ksEnv qual (iScope ps) L fI (.ref cda) cc) (eval (.Call (.Name "super" p0) [] [] p1) (ksEnv qual (iScope ps) L fI (.ref cda) cc))
      standAt p2.atName
      let (f, first) ← holding [ov] (getMethod ov "__init__" pl)
      callWith p4 f first (backTo p4 (starEach [.Constant (.str msg) j p3] (ksEnv qual (iScope ps) L fI (.ref cda) cc))) []))
    (q : ∀ h' tk t1, (∀ b o, b ≠ x → h.get? b = some o → h'.get? b = some o) → h'.get? x = some (excO C t1) → wpAny (model prog w) A (execs rest (ksEnv qual (iScope ps) L fI (.ref cda) cc)) Q E ⟨h', g, d, tk, os⟩) :
    _root_.PySem.wpAt (model prog w) A (.func body (ksEnv qual (iScope ps) L fI (.ref cda) cc)) (execs (iSup msg j p0 p1 p2 p3 p4 p5 :: rest) (ksEnv qual (iScope ps) L fI (.ref cda) cc)) Q E ⟨h, g, d, t, os⟩ := by
  obtain ⟨nm, q', N, bs, bm, sn, sub, ab, col, dd, k0, k1, k2, k3, k5, eC, ebm⟩ := T.cls
  have hcl : clsIn K C = some { name := nm, bases := bs, mro := .ref C :: bm, ns := N, qualname := q', hasDict := true, slotNames := sn, subclasses := sub, abstract := ab, collection := col, hasDel := false } := by unfold clsIn; rw [eC] <;> rfl
  have xneC : x ≠ C := fun z => by rw [z, eC] at hx0; cases hx0
  obtain ⟨mb, nb, eb⟩ := hB
  obtain ⟨oD, hD1, hD2⟩ : ∃ oD, h.get? C = some oD ∧ oD.data = .cls { name := nm, bases := bs, mro := .ref C :: bm, ns := N, qualname := q', hasDict := true, slotNames := sn, subclasses := sub, abstract := ab, collection := col, hasDel := false } := ⟨_, X _ _ eC, rfl⟩
  obtain ⟨pl, he⟩ := he
  refine ks_wpAt_execs_cons (ks_wpAt_Expr_any (ks_wpAt_MethodCall ?_ he) (by rfl) (by rfl))
  refine ks_wpAt_super_base (env := ksEnv qual (iScope ps) L fI (.ref cda) cc) hks hkc (by decide) rfl (X _ _ hf) rfl hp rfl (X _ _ hcode) rfl hvs hfile T.top ?_
  refine ks_loadName_global rfl hks (loadGlobal_builtin (env := ksEnv qual (iScope ps) L fI (.ref cda) cc) hG T.supG nb ((eb _ (by decide)).trans (by first | boot_by_name | rfl | kernel_rfl)) ⟨rfl, ?_⟩)
  refine wpAny_loadName_free rfl hkc rfl ⟨_, X _ _ hcell, rfl⟩ ?_
  refine wpAny_loadName_local rfl hka hn hv ?_
  refine ks_wpAny_isType_cls hD1 hD2 ⟨rfl, ?_⟩
  refine ks_wpAny_call_super hD1 hD2 hx rfl (fun c z => by cases z) (looks_mroIn X T.mC) (fun h2 e2 k2 => ?_)
  have X2 : K.In h2 := X.keeps k2
  have I2 : InstAt h2 x (excO C t0) C none := ⟨k2 _ _ hx, rfl, rfl, trivial⟩
  have sI := T.supI
  unfold ks_superIn at sI
  rw [hcl] at sI
  refine kxs_getMethod kxs_ValueError e2 (looks_opaque X2 T.opq) (l₀ := Value.ref C :: bm) (fun A Q E s k z => wpAny_bind ((looks_clsIn X2 hcl) A _ E s k (wpAny_pure z))) rfl X2 sI (I2.type.andThen (looks_subIn X2 T.veC)) xneC (by decide) ?_
  have k3 : ∀ b o, h2.get? b = some o → (h2.push (kxs_mw "ValueError.__init__" x)).get? b = some o := fun b o z => Heap.get?_push_of_some _ z
  have e3 : (h2.push (kxs_mw "ValueError.__init__" x)).get? h2.objs.size = some (kxs_mw "ValueError.__init__" x) := Heap.get?_push_size _ rfl
  refine kxs_callWith (i := "ValueError.__init__") (x := x) (by rfl) ?_
  refine evalArgs_plain ?_
  refine args_cons (Calls.Constant_str ?_) rfl
  refine args_nil ?_
  refine ⟨e3, mw_call (k3 _ _ (X2 _ _ eC)) (k3 _ _ (k2 _ _ hx)) e3 (by show 1 ≤ sizeLine; decide) fun h4 t1 k4 e4 => ?_⟩
  exact wpAt_of_wpAny (q h4 _ t1 (fun b o n z => k4 b o n (k3 b o (k2 b o z))) e4)
theorem asg_new {qual : Str} {L fI cda cc x C t0 : Addr} {m mg : Str → Option Value} {v : Value} {f : Str} {q1 q2 q3 q4 : Pos} {Q : Flow → Shared → Prop} {fs ps : List Str} {nmC : Str} {fb rest : List Stmt}
    (T : ExTxt prog K mg C fI nmC fs fb) (X : K.In h) (hf : f ∈ fs) (hn : h.Ns L m) (hs : m "self" = some (.ref x)) (hv : m f = some v) (hx : h.get? x = some (excO C t0))
    (k1 : (iScope ps).names.lookup ("self" : Str) = some .local) (k2 : (iScope ps).names.lookup f = some .local) (hd : (f == ("__debug__" : Str)) = false)
    (hsw : swapsWith (.Name f q3) (some (.Attribute (.Name "self" q1) f q2)) q4.line (ksEnv qual (iScope ps) L fI (.ref cda) cc) = pure false)
    (q : ∀ h' tk dx, (∀ b o, b ≠ x → h.get? b = some o → h'.get? b = some o) → h.objs.size ≤ dx → dx ≠ x → h'.get? x = some { cls := .ref C, dict := some dx, data := .fields #[.ref t0, .none, .none, .none, .bool false, .none] } → h'.Ns1 dx (fun y => if y = f then some v else none) →
      wpAny (model prog w) A (execs rest (ksEnv qual (iScope ps) L fI (.ref cda) cc)) Q E ⟨h', g, d, tk, os⟩) :
    wpAny (model prog w) A (execs (iAsg f q1 q2 q3 q4 :: rest) (ksEnv qual (iScope ps) L fI (.ref cda) cc)) Q E ⟨h, g, d, t, os⟩ := by
  obtain ⟨nm, q', N, bs, bm, sn, sub, ab, col, dd, c0, c1, c2, c3, c5, eC, ebm⟩ := T.cls
  have hcl : clsIn K C = some { name := nm, bases := bs, mro := .ref C :: bm, ns := N, qualname := q', hasDict := true, slotNames := sn, subclasses := sub, abstract := ab, collection := col, hasDel := false } := by unfold clsIn; rw [eC] <;> rfl
  refine wpAny_execs_cons (plainObj_wpAny_Assign_Attribute ?_ hsw)
  refine nm_local (env := ksEnv qual (iScope ps) L fI (.ref cda) cc) hn hv ?_ rfl k2 hd
  refine nm_local (env := ksEnv qual (iScope ps) L fI (.ref cda) cc) hn hs ?_ rfl k1 (by decide)
  refine set_plain X (ox := excO C t0) (od := none) ⟨hx, rfl, rfl, trivial⟩ T.sa ?_
  exact exc_osa X hx hcl (show refsVE (.ref C :: bm) = true from ebm) rfl (T.noF f hf) fun h3 tk3 dx k3 dn dne hx3 hn3 => q h3 tk3 dx k3 dn dne hx3 hn3
end
end Ct

namespace Ct
open PySem PySem.W PySem.Calls PyProof.Rows PySem.HandSPX

def SupOk (ps : List Str) (fI : Addr) (msg : Str) (j : Nat) (p0 p1 p2 p3 p4 : Pos) : Prop := ∀ (qual : Str) (L cda cc : Addr), ∃ pl, eval (.Call (.Attribute (.Call (.Name "super" p0) [] [] p1) "__init__" p2) [.Constant (.str msg) j p3] [] p4) (ksEnv qual (iScope ps) L fI (.ref cda) cc) = (do
      let ov ← attributeBase (.Call (.Name "super" p0) [] [] p1) "__init__" (ksEnv qual (iScope ps) L fI (.ref cda) cc) (eval (.Call (.Name "super" p0) [] [] p1) (ksEnv qual (iScope ps) L fI (.ref cda) cc))
      standAt p2.atName
      let (f, first) ← holding [ov] (getMethod ov "__init__" pl)
      callWith p4 f first (backTo p4 (starEach [.Constant (.str msg) j p3] (ksEnv qual (iScope ps) L fI (.ref cda) cc))) [])
def AsgOk (ps : List Str) (fI : Addr) (f : Str) (q1 q2 q3 q4 : Pos) : Prop := ∀ (qual : Str) (L cda cc : Addr), swapsWith (.Name f q3) (some (.Attribute (.Name "self" q1) f q2)) q4.line (ksEnv qual (iScope ps) L fI (.ref cda) cc) = pure false
def BndOk (fs : List Str) (body : List Stmt) : Prop := ∀ (s : Shared) (qual : Str) (ps : List Pos) (dV kV doc pm : Value) (an : Option Addr) (cda : Addr) (ct : Value) (cc : Addr) (us : List Value), ps.length = fs.length + 1 → us.length = fs.length + 1 →
  BindsTo s (ksFn "__init__" qual (iArgs ((("self" : Str) :: fs).zip ps)) body (iScope (("self" : Str) :: fs)) .none kV doc pm an (.ref cda) ct cc) ⟨us, []⟩ ((("self" : Str) :: fs).zip us)
structure ScpOk (fs : List Str) : Prop where
  l1 : (iScope ("self" :: fs)).names.lookup ("super" : Str) = some .globalImplicit
  l2 : (iScope ("self" :: fs)).names.lookup ("__class__" : Str) = some .free
  l3 : ∀ f ∈ fs, (iScope ("self" :: fs)).names.lookup f = some .local
  l4 : (iScope ("self" :: fs)).names.lookup ("self" : Str) = some .local
  cells : ∀ y ∈ (iScope ("self" :: fs)).names, y.2 ≠ .cell
  nself : ∀ f ∈ fs, (("self" : Str) == f) = false
  ndbg : ∀ f ∈ fs, (f == ("__debug__" : Str)) = false
def fmap : List Str → List Value → Str → Option Value
  | f :: fs, v :: vs => fun y => if y = f then some v else fmap fs vs y
  | _, _ => fun _ => none

section
variable {prog : Program} {w : World} {A : Around} {h : Heap} {g : Array GenState} {d : Drawn} {t : Nat} {os : OsState} {K : Frag} {mg : Str → Option Value} {C fI x t0 : Addr} {nm f f2 msg : Str} {v v2 : Value} {R : Result → Shared → Prop} {j : Nat} {p0 p1 p2 p3 p4 p5 q1 q2 q3 q4 r1 r2 r3 r4 : Pos}
theorem keep_in {h' : Heap} {x : Addr} (X : K.In h) (hx : K.lookup x = none) (k : ∀ b o, b ≠ x → h.get? b = some o → h'.get? b = some o) : K.In h' := fun a o e => k a o (fun z => by rw [z, hx] at e; cases e) (X a o e)
theorem ns_keep {h' : Heap} {L x : Addr} {m : Str → Option Value} (hn : h.Ns L m) (ne : L ≠ x) (k : ∀ b o, b ≠ x → h.get? b = some o → h'.get? b = some o) : h'.Ns L m := by
  obtain ⟨o, es, ep, e, r⟩ := hn
  exact ⟨o, es, ep, k _ _ ne e, r⟩
theorem init1 (T : ExTxt prog K mg C fI nm [f] [iSup msg j p0 p1 p2 p3 p4 p5, iAsg f q1 q2 q3 q4]) (so : SupOk ["self", f] fI msg j p0 p1 p2 p3 p4) (ao : AsgOk ["self", f] fI f q1 q2 q3 q4) (sc : ScpOk [f]) (bo : BndOk [f] [iSup msg j p0 p1 p2 p3 p4 p5, iAsg f q1 q2 q3 q4])
    (X : K.In h) (hG : h.Ns mainGlobals mg) (hB : ∃ mb, h.Ns builtinsNs mb ∧ ∀ y : Str, y ≠ "__name__" → mb y = bootBuiltins y) (lim : h.NoLimit) (hx : h.get? x = some (excO C t0)) (hx0 : K.lookup x = none) (room : A.depth < recursionLimit)
    (q : ∀ h' tk, IEnd h h' x C (fmap [f] [v]) → R (.ok (.ret .none)) ⟨h', g, d, tk, os⟩) :
    codeAny (model prog w) A (.call (.ref fI) ⟨[.ref x, v], []⟩) R ⟨h, g, d, t, os⟩ := by
  obtain ⟨oc, od, qual, ps, dV, kV, doc, pm, an, cda, ct, cc, osl, ccl, cl, cdd, cld, vs, ccs, csl, file, tf, hps, lk, hcd, lcd, hvs, hfile, lcc⟩ := T.fn
  match ps, hps with
  | [a, b], _ =>
    have bnd := bo ⟨h, g, d, t, os⟩ qual [a, b] .none kV doc pm an cda ct cc [.ref x, v] rfl rfl
    refine ks_codeAny_call_defAt (fd := ksFn "__init__" qual (iArgs ((("self" : Str) :: [f]).zip [a, b])) [iSup msg j p0 p1 p2 p3 p4 p5, iAsg f q1 q2 q3 q4] (iScope (("self" : Str) :: [f])) .none kV doc pm an (.ref cda) ct cc) (body := [iSup msg j p0 p1 p2 p3 p4 p5, iAsg f q1 q2 q3 q4]) room (X _ _ lk) rfl lim (codeRec_of X hcd) rfl bnd sc.cells ?_ (fun h1 hns k1 => ?_)
    · intro y hy
      rcases List.mem_cons.mp hy with rfl | hy
      · exact sc.l4
      · rcases List.mem_cons.mp hy with rfl | hy
        · exact sc.l3 f List.mem_cons_self
        · cases hy
    · have X1 : K.In h1 := X.keeps k1
      have hLx : h.objs.size ≠ x := Nat.ne_of_gt (Heap.lt_size hx)
      have nf := sc.nself f List.mem_cons_self
      have ms : (fun y => ([(("self" : Str), Value.ref x), (f, v)] : List (Str × Value)).reverse.lookup y) "self" = some (.ref x) := by
        show List.lookup ("self" : Str) [(f, v), ("self", .ref x)] = _
        simp [List.lookup, nf]
      have mf : (fun y => ([(("self" : Str), Value.ref x), (f, v)] : List (Str × Value)).reverse.lookup y) f = some v := by
        show List.lookup f [(f, v), ("self", .ref x)] = _
        simp [List.lookup]
      refine sup_step (T := T) (fd := ksFn "__init__" qual (iArgs ((("self" : Str) :: [f]).zip [a, b])) [iSup msg j p0 p1 p2 p3 p4 p5, iAsg f q1 q2 q3 q4] (iScope (("self" : Str) :: [f])) .none kV doc pm an (.ref cda) ct cc) X1 hns (hG.keeps k1) (by obtain ⟨mb, n1, n2⟩ := hB; exact ⟨mb, n1.keeps k1, n2⟩) lk (ar := { arg := "self", annotation := none, pos := a }) rfl ms (k1 _ _ hx) lcd hvs hfile lcc sc.l1 sc.l2 sc.l4 hx0 (so qual h.objs.size cda cc) fun h2 tk2 t2 k2 e2 => ?_
      refine asg_new T (keep_in X1 hx0 k2) List.mem_cons_self (ns_keep hns hLx k2) ms mf e2 sc.l4 (sc.l3 f List.mem_cons_self) (sc.ndbg f List.mem_cons_self) (ao qual h.objs.size cda cc) fun h3 tk3 dx k3 dn dne e3 n3 => ?_
      refine wpAny_execs_nil (q h3 tk3 ⟨fun b o n z => k3 b o n (k2 b o n (k1 b o z)), dx, t2, e3, ?_, dne, n3⟩)
      have z1 : h.objs.size < h1.objs.size := hns.lt
      have z2 : h.objs.size < h2.objs.size := (ns_keep hns hLx k2).lt
      exact Nat.le_of_lt (Nat.lt_of_lt_of_le z2 dn)
structure EMade (h h' : Heap) (e C : Addr) (fm : Str → Option Value) : Prop where
  keep : ∀ b o, h.get? b = some o → h'.get? b = some o
  new : h.objs.size ≤ e
  ex : ∃ dx oe vs, h'.get? e = some oe ∧ oe.cls = .ref C ∧ oe.dict = some dx ∧ oe.data = .fields vs ∧ vs[1]? = some .none ∧ h.objs.size ≤ dx ∧ dx ≠ e ∧ h'.Ns1 dx fm
def InitOk (prog : Program) (w : World) (K : Frag) (mg : Str → Option Value) (C fI : Addr) (n : Nat) (fs : List Str) : Prop := ∀ (A : Around) (R : Result → Shared → Prop) (h : Heap) (g : Array GenState) (d : Drawn) (t : Nat) (os : OsState) (x t0 : Addr) (us : List Value), us.length = n → K.In h → h.Ns mainGlobals mg → (∃ mb, h.Ns builtinsNs mb ∧ ∀ y : Str, y ≠ "__name__" → mb y = bootBuiltins y) → h.NoLimit →
  h.get? x = some (excO C t0) → K.lookup x = none → A.depth < recursionLimit → (∀ h' tk, IEnd h h' x C (fmap fs us) → R (.ok (.ret .none)) ⟨h', g, d, tk, os⟩) → codeAny (model prog w) A (.call (.ref fI) ⟨.ref x :: us, []⟩) R ⟨h, g, d, t, os⟩
theorem initOk1 (T : ExTxt prog K mg C fI nm [f] [iSup msg j p0 p1 p2 p3 p4 p5, iAsg f q1 q2 q3 q4]) (so : SupOk ["self", f] fI msg j p0 p1 p2 p3 p4) (ao : AsgOk ["self", f] fI f q1 q2 q3 q4) (sc : ScpOk [f]) (bo : BndOk [f] [iSup msg j p0 p1 p2 p3 p4 p5, iAsg f q1 q2 q3 q4]) : InitOk prog w K mg C fI 1 [f] :=
  fun A R h g d t os x t0 us hl X hG hB lim hx hx0 room q => match us, hl with
    | [_], _ => init1 T so ao sc bo X hG hB lim hx hx0 room q
theorem made {fs : List Str} {body : List Stmt} {us : List Value} {s : Shared} (T : ExTxt prog K mg C fI nm fs body) (IO : InitOk prog w K mg C fI fs.length fs) (hl : us.length = fs.length) (hz : us.length ≤ sizeLine) (X : K.In s.heap) (hG : s.heap.Ns mainGlobals mg) (hB : ∃ mb, s.heap.Ns builtinsNs mb ∧ ∀ y : Str, y ≠ "__name__" → mb y = bootBuiltins y) (lim : s.heap.NoLimit) (room : A.depth + 1 < recursionLimit)
    (q : ∀ h' tk e, EMade s.heap h' e C (fmap fs us) → R (.ok (.ret (.ref e))) { s with heap := h', toks := tk }) : codeAny (model prog w) A (.call (.ref C) ⟨us, []⟩) R s := by
  obtain ⟨nm', q', N, bs, bm, sn, sub, ab, col, dd, k0, k1, k2, k3, k5, eC, ebm⟩ := T.cls
  obtain ⟨hp, g, dr, tk, os⟩ := s
  have kp : ∀ b o, hp.get? b = some o → ((hp.push (kdv_tup us)).push (excO C hp.objs.size)).get? b = some o := fun b o z => Heap.get?_push_of_some _ (Heap.get?_push_of_some _ z)
  have ge : ((hp.push (kdv_tup us)).push (excO C hp.objs.size)).get? (hp.objs.size + 1) = some (excO C hp.objs.size) := by heap_get
  have nx : K.lookup (hp.objs.size + 1) = none := by
    cases z : K.lookup (hp.objs.size + 1) with
    | none => rfl
    | some o => exact absurd (Nat.lt_of_succ_lt (Heap.lt_size (X _ _ z))) (Nat.lt_irrefl _)
  refine call_own PySem.F.excBase_ValueError (fun Y => refsVE_contains Y bm ebm) (X _ _ eC) (looks_findIn X T.iC) (fun self => bind_fn X self T.tC) hz ?_
  refine IO _ _ _ g dr tk os (hp.objs.size + 1) hp.objs.size us hl (X.keeps kp) (hG.keeps kp) (by obtain ⟨mb, n1, n2⟩ := hB; exact ⟨mb, n1.keeps kp, n2⟩) (lim.keeps kp) ge nx room fun h' tk' M => ?_
  obtain ⟨dx, t1, e1, e2, e3, e4⟩ := M.ex
  refine ⟨rfl, q h' tk' _ ⟨fun b o z => M.keep b o (Nat.ne_of_lt (Nat.lt_succ_of_lt (Heap.lt_size z))) (kp b o z), Nat.le_succ _, dx, _, _, e1, rfl, rfl, rfl, rfl, ?_, e3, e4⟩⟩
  have z : hp.objs.size + 1 + 1 ≤ dx := by simpa only [Heap.size_push] using e2
  exact Nat.le_trans (Nat.le_trans (Nat.le_succ _) (Nat.le_succ _)) z
end
end Ct

namespace Ct
open PySem PySem.Spec PyProof.Rows L2
theorem relO_fmap : ∀ {fs : List Str} {vs : List V} {us : List Value}, Vals vs us → fs.length = vs.length → ∀ y : Str, RelO (List.lookup y (fs.zip vs)) (fmap fs us y)
  | [], [], _, .nil, _, _ => trivial
  | f :: fs, v :: vs, u :: us, .cons r rs, hl, y => by
    show RelO (List.lookup y ((f, v) :: fs.zip vs)) (if y = f then some u else fmap fs us y)
    by_cases e : y = f
    · subst e
      rw [if_pos rfl]
      have : List.lookup y ((y, v) :: fs.zip vs) = some v := by simp [List.lookup]
      rw [this]
      exact r
    · rw [if_neg e]
      have e' : (y == f) = false := by simpa using e
      have : List.lookup y ((f, v) :: fs.zip vs) = List.lookup y (fs.zip vs) := by simp [List.lookup, e']
      rw [this]
      exact relO_fmap rs (Nat.succ.inj hl) y
section
variable {X : Cx} {C fI : Addr} {nm : Str} {fs : List Str} {body : List Stmt}
theorem pmk_ex {e : Expr} {es : List Expr} {ta : TA} {p pos : Pos} {k : Nat} (T : ExTxt X.prog X.K X.mg C fI nm fs body) (IO : InitOk X.prog X.w X.K X.mg C fI fs.length fs) (hr : Room k X.A) (ha : PA X (e :: es) ta) (hg : Gl X nm) (hdb : (nm == ("__debug__" : Str)) = false)
    (he : starEach (e :: es) X.env = (false, eval e X.env) :: starEach es X.env) (hpl : (backTo pos (starEach es X.env)).any (·.1) = false) :
    PMk X (.Call (.Name nm p) (e :: es) [] pos) (fun σ H Q => ta σ H fun vs H1 => fs.length = vs.length ∧ vs.length ≤ sizeLine ∧ ∀ d, H1 d = none → Q (.ref C) (some d) (upd H1 d (.xd (fs.zip vs)))) := by
  intro pins s σ H Q J z
  refine wpAny_Call_Name_kw (ld_glob J hg T.gC ?_ hdb)
  refine PySem.W.callWith_K (h₀ := X.base) J.ok.mod.kin T.kC (thn (ha.run pos pins s σ H _ J z) fun us s1 hh => ?_) he hpl
  obtain ⟨vs, H1, J1, rv, hl, hz, q1⟩ := hh
  refine ⟨J1.kIn, ?_⟩
  show wpAny _ _ (call (.ref C) us) _ _ _
  have lim := J1.nolimit
  have hG := J1.mod.glob.keeps J1.bk
  have hB : ∃ mb, s1.heap.Ns builtinsNs mb ∧ ∀ y : Str, y ≠ "__name__" → mb y = bootBuiltins y := by
    obtain ⟨mb, n1, n2⟩ := J1.mod.blt
    exact ⟨mb, n1.keeps J1.bk, n2⟩
  obtain ⟨hp, g, dr, tk, os⟩ := s1
  refine wpAny_call (made T IO (rv.length.symm.trans hl.symm) (by rw [← rv.length]; exact hz) J1.kIn hG hB lim (by have := hr.dp; omega) fun h' tk' a M => ?_)
  show MkP X pins σ Q (.ref a) ⟨h', g, dr, tk', os⟩
  obtain ⟨dx, oe, fv, m1, m2, m3, m4, m5, m6, m7, m8⟩ := M.ex
  obtain ⟨G', g1, g2⟩ := restrict h' fun b => decide (b ≠ a)
  have gk : ∀ b, b ≠ a → G'.get? b = h'.get? b := fun b hb => g1 b (decide_eq_true hb)
  have ga : G'.get? a = none := g2 a (by simp)
  have old : ∀ b o, hp.get? b = some o → G'.get? b = some o := fun b o y => (gk b (Nat.ne_of_lt (Nat.lt_of_lt_of_le (Heap.lt_size y) M.new))).trans (M.keep b o y)
  have ob : ObjOk X.prog X.w (upd H1 dx (.xd (fs.zip vs))) G' dx (.xd (fs.zip vs)) := ⟨_, m8.at (fun o y => (gk dx m7).trans y), fun f => relO_fmap rv hl f⟩
  have J2 : Inv X pins σ (upd H1 dx (.xd (fs.zip vs))) ⟨G', g, dr, tk', os⟩ := J1.laid (t' := tk') old m6 ob
  refine ⟨a, oe, fv, ⟨G', g, dr, tk', os⟩, _, .ref C, some dx, rfl, J2, fun b o y => ?_, ga, m1, ⟨m2, m3⟩, m4, m5, ?_, rfl, J1.bare, raises_own T.exC T.tyC, q1 dx (J1.hok.fresh m6)⟩
  · by_cases hb : b = a
    · have y' : G'.get? b = some o := y
      rw [hb, ga] at y'; cases y'
    · exact (gk b hb).symm.trans y
  · rw [upd_ne (Ne.symm m7)]
    exact J1.hok.fresh M.new
end

def fRaise (c : Nat) (g : Rho → Rs (List D)) : Rho → Out := fun ρ => (g ρ).out ρ fun ds => .exc ⟨c, ds⟩ ρ
section
variable {S : Sx} {kd : Kd} {st : Stmt}
theorem xs_raise {C fI : Addr} {nm : Str} {fs : List Str} {body : List Stmt} {c k : Nat} {e : Expr} {es : List Expr} {g : Rho → Rs (List D)} {p pos pos2 : Pos} (hc : S.X.calm = true) (tk : Takes S.X S.W) (T : ExTxt S.X.prog S.X.K S.X.mg C fI nm fs body) (IO : InitOk S.X.prog S.X.w S.X.K S.X.mg C fI fs.length fs)
    (hca : S.ca c = C) (hcf : S.cf c = fs) (hr : Room k S.X.A) (ha : XA S .e (e :: es) g) (hfs : fs.length = (e :: es).length) (hsz : fs.length ≤ sizeLine) (hg : Gl S.X nm := by rfl) (hdb : (nm == ("__debug__" : Str)) = false := by decide)
    (hlen : ∀ ρ ds, g ρ = .ok ds → ds.length = fs.length)
    (he : starEach (e :: es) S.X.env = (false, eval e S.X.env) :: starEach es S.X.env := by rfl) (hpl : (backTo pos (starEach es S.X.env)).any (·.1) = false := by rfl) : XS S kd (.Raise (some (.Call (.Name nm p) (e :: es) [] pos)) none pos2) (fRaise c g) :=
  let ⟨_, a1, a2⟩ := ha
  ⟨_, ps_raise hc tk (pmk_ex T IO hr a1 hg hdb he hpl), fun H0 G0 σ H G ρ N q w => by
    unfold fRaise at w
    cases eg : g ρ with
    | stuck => rw [eg] at w; exact w.elim
    | exc er =>
      rw [eg] at w
      refine a2 H0 G0 σ H G ρ _ q ?_
      rw [eg]
      exact fun cc dd H' G' s r => w cc dd σ H' G' (q.step s) r
    | ok ds =>
      rw [eg] at w
      have hd := hlen ρ ds eg
      refine a2 H0 G0 σ H G ρ _ q ?_
      rw [eg]
      intro vs H1 G1 s1 r1
      have hv : vs.length = fs.length := (RpL.length r1).trans hd
      refine ⟨hv.symm, by rw [hv]; exact hsz, fun d hd' => ?_⟩
      exact w (.ref C) (some d) σ _ _ (q.step (s1.trans (Step.new s1.sub hd'))) ⟨by rw [hca], .inr ⟨d, vs, rfl, by rw [hcf]; exact hv.symm, by rw [hcf]; exact upd_same, RpL.mono (same_new (Same.free s1.sub hd')) r1⟩⟩⟩
theorem xs_raise0 {C : Addr} {x m : Str} {c j : Nat} {p p2 pos pos2 : Pos} (hc : S.X.calm = true) (tk : Takes S.X S.W) (q : PySem.W.excIn S.X.K C [.type "ValueError", .type "Exception", .type "BaseException", .type "object"] "ValueError.__new__" = true) (gC : S.X.mg x = some (.ref C)) (kC : PySem.W.keepIn S.X.K (.ref C) = true) (r : Raises S.X (.ref C))
    (hca : S.ca c = C) (hg : Gl S.X x := by rfl) (hdb : (x == ("__debug__" : Str)) = false := by decide) : XS S kd (.Raise (some (.Call (.Name x p) [.Constant (.str m) j p2] [] pos)) none pos2) (fRaise c aNil) :=
  ⟨_, ps_raise hc tk (pmk_own PySem.F.excBase_ValueError q gC kC r hg hdb), fun H0 G0 σ H G ρ N q' w => w (.ref C) none σ H G q' ⟨by rw [hca], .inl ⟨rfl, rfl⟩⟩⟩
theorem al0 : ∀ ρ ds, aNil ρ = .ok ds → ds.length = 0 := fun ρ ds h => by cases h; rfl
theorem al1 {f : Rho → Rs D} {g : Rho → Rs (List D)} {n : Nat} (h : ∀ ρ ds, g ρ = .ok ds → ds.length = n) : ∀ ρ ds, aCons f g ρ = .ok ds → ds.length = n + 1 := fun ρ ds e => by
  unfold aCons at e
  cases e1 : f ρ with
  | exc _ => rw [e1] at e; cases e
  | stuck => rw [e1] at e; cases e
  | ok d =>
    rw [e1] at e
    cases e2 : g ρ with
    | exc _ => rw [Rs.bind_ok, e2] at e; cases e
    | stuck => rw [Rs.bind_ok, e2] at e; cases e
    | ok l =>
      rw [Rs.bind_ok, e2] at e
      cases e
      rw [List.length_cons, h ρ l e2]
end
end Ct

namespace Ct
open PySem PySem.Spec PyProof.Rows L2

abbrev Clause := Value × Option Nat × (Addr → Value → Option Addr → TS)
def goneE (o : Option Nat) (N : Ends) : Ends := match o with
  | none => N
  | some i => { nx := fun σ H => N.nx (σ.set i none) H, rt := N.rt, bk := fun σ H => N.bk (σ.set i none) H, ct := fun σ H => N.ct (σ.set i none) H }
inductive Cls' (X : Cx) : List ExceptHandler → List Clause → Prop
  | nil : Cls' X [] []
  | plain {x : Str} {c : Value} {ts : Addr → Value → Option Addr → TS} {b₀ : Stmt} {su : List Stmt} {p1 p2 : Pos} {hs : List ExceptHandler} {l : List Clause} (hc : Names X x c)
      (hsu : ∀ (a : Addr) (oe : Obj) (cls : Value) (d : Option Addr) (pn : List (Addr × Obj)), Zc cls d oe → (∃ vs, oe.data = .fields vs) → PSs (X.suite a ((a, oe) :: pn)) (b₀ :: su) (ts a cls d)) (r : Cls' X hs l) :
      Cls' X (.ExceptHandler (some (.Name x p1)) none (b₀ :: su) p2 :: hs) ((c, none, ts) :: l)
  | named {x n : Str} {i : Nat} {c : Value} {ts : Addr → Value → Option Addr → TS} {b₀ : Stmt} {su : List Stmt} {p1 p2 : Pos} {hs : List ExceptHandler} {l : List Clause} (hN : X.N.Nodup) (hi : X.N[i]? = some n) (hl : X.env.kindOf n = some .local) (hc : Names X x c)
      (hsu : ∀ (a : Addr) (oe : Obj) (cls : Value) (d : Option Addr) (pn : List (Addr × Obj)), Zc cls d oe → (∃ vs, oe.data = .fields vs) → PSs (X.suite a ((a, oe) :: pn)) (b₀ :: su) (ts a cls d)) (r : Cls' X hs l) :
      Cls' X (.ExceptHandler (some (.Name x p1)) (some n) (b₀ :: su) p2 :: hs) ((c, some i, ts) :: l)
section
variable {X : Cx} {body : List Stmt} {h0 : ExceptHandler} {hds : List ExceptHandler} {l : List Clause} {pos : Pos} {tb : WX → TS} {Wo : WX}
end
end Ct

namespace Ct
open PySem PySem.Spec PyProof.Rows L2

def inR (o : Option Nat) (er : Er) (ρ : Rho) : Rho := match o with
  | none => ρ
  | some i => ρ.set i (.ex er)
def NoEx (ρ : Rho) : Bool := ρ.all fun s => match s with
  | .ex _ => false
  | _ => true
def goneR (o : Option Nat) (ρ : Rho) : Rho := match o with
  | none => ρ
  | some i => ρ.set i .un
def outG (o : Option Nat) (r : Out) : Out := match r with
  | .nx ρ => if NoEx (goneR o ρ) = true then .nx (goneR o ρ) else .stuck
  | .brk ρ => if NoEx (goneR o ρ) = true then .brk (goneR o ρ) else .stuck
  | .ct ρ => if NoEx (goneR o ρ) = true then .ct (goneR o ρ) else .stuck
  | .exc _ _ => .stuck
  | r => r
abbrev Hdl := Nat × Option Nat × (Rho → Out)
def handleS (sb : Nat → Nat → Option Bool) (er : Er) (ρ : Rho) : List Hdl → Out
  | [] => .exc er ρ
  | (hc, o, su) :: r => match sb er.c hc with
    | some true => outG o (su (inR o er ρ))
    | some false => handleS sb er ρ r
    | none => .stuck
def SubOk (K : PySem.W.Frag) (ca : Nat → Addr) (sb : Nat → Nat → Option Bool) : Prop := ∀ c hc b, sb c hc = some b → PySem.W.exmOne K (.ref (ca c)) (.ref (ca hc)) = some b
def uS (S : Sx) (kd : Kd) (g : Rho → Out) : TS := fun N σ H => ∃ H0 G0 G ρ, Ok S H0 G0 σ H G ρ ∧ OutP S kd H0 G0 N (g ρ)
theorem OutP.conv {S S' : Sx} (h1 : S'.ca = S.ca) (h2 : S'.cf = S.cf) (h3 : S'.xa = S.xa) (hW : S'.W = S.W) (h4 : S'.io = S.io) {kd : Kd} {H0 G0 : Hp} {N : Ends} : ∀ {o : Out}, OutP S kd H0 G0 N o → OutP S' kd H0 G0 N o
  | .nx _, h => fun σ H G q => h σ H G (q.conv h1.symm h2.symm h3.symm h4.symm)
  | .brk _, h => fun σ H G q => h σ H G (q.conv h1.symm h2.symm h3.symm h4.symm)
  | .ct _, h => fun σ H G q => h σ H G (q.conv h1.symm h2.symm h3.symm h4.symm)
  | .ret _, h => h
  | .exc _ _, h => fun c dd σ H G q r => by rw [hW]; exact h c dd σ H G (q.conv h1.symm h2.symm h3.symm h4.symm) (by rw [← h1, ← h2]; exact r)
  | .stuck, h => h
abbrev Sx.tr (S : Sx) (pn : List (Addr × Obj)) (xe : Value → Shared → Prop) (W : WX) : Sx := { S with X := S.X.tr pn xe, W := W }
abbrev Sx.sx (S : Sx) (a : Addr) (cls : Value) (d : Option Addr) : Sx := { S with W := fun _ _ _ _ => False, xa := some (a, cls, d) }
abbrev Sx.su (S : Sx) (a : Addr) (oe : Obj) (pn : List (Addr × Obj)) (cls : Value) (d : Option Addr) : Sx := { S with X := S.X.suite a ((a, oe) :: pn), W := fun _ _ _ _ => False, xa := some (a, cls, d) }
theorem pss_uS {S : Sx} {kd : Kd} {b : List Stmt} {g : Rho → Out} {a : Addr} {oe : Obj} {pn : List (Addr × Obj)} {cls : Value} {d : Option Addr} (h : XSs (S.su a oe pn cls d) kd b g) : PSs (S.X.suite a ((a, oe) :: pn)) b (uS (S.sx a cls d) kd g) :=
  let ⟨_, a1, a2⟩ := h; ⟨fun pins s σ H N I ⟨H0, G0, G, ρ, q, w⟩ => a1.run pins s σ H N I (a2 H0 G0 σ H G ρ N (Ok.conv (S := S.sx a cls d) (S' := S.su a oe pn cls d) rfl rfl rfl q) (OutP.conv (S := S.sx a cls d) (S' := S.su a oe pn cls d) rfl rfl rfl rfl rfl w))⟩
inductive XHs (S : Sx) (kd : Kd) : List ExceptHandler → List Hdl → List Clause → Prop
  | nil : XHs S kd [] [] []
  | plain {x : Str} {hc : Nat} {su : Rho → Out} {b₀ : Stmt} {sts : List Stmt} {p1 p2 : Pos} {hs : List ExceptHandler} {l : List Hdl} {cl : List Clause} (hn : Names S.X x (.ref (S.ca hc)))
      (h : ∀ (a : Addr) (oe : Obj) (cls : Value) (d : Option Addr) (pn : List (Addr × Obj)), Zc cls d oe → (∃ vs, oe.data = .fields vs) → XSs (S.su a oe pn cls d) kd (b₀ :: sts) su) (r : XHs S kd hs l cl) :
      XHs S kd (.ExceptHandler (some (.Name x p1)) none (b₀ :: sts) p2 :: hs) ((hc, none, su) :: l) ((.ref (S.ca hc), none, fun a cls d => uS (S.sx a cls d) kd su) :: cl)
  | named {x n : Str} {i hc : Nat} {su : Rho → Out} {b₀ : Stmt} {sts : List Stmt} {p1 p2 : Pos} {hs : List ExceptHandler} {l : List Hdl} {cl : List Clause} (hN : S.X.N.Nodup) (hi : S.X.N[i]? = some n) (hl : S.X.env.kindOf n = some .local) (hn : Names S.X x (.ref (S.ca hc)))
      (h : ∀ (a : Addr) (oe : Obj) (cls : Value) (d : Option Addr) (pn : List (Addr × Obj)), Zc cls d oe → (∃ vs, oe.data = .fields vs) → XSs (S.su a oe pn cls d) kd (b₀ :: sts) su) (r : XHs S kd hs l cl) :
      XHs S kd (.ExceptHandler (some (.Name x p1)) (some n) (b₀ :: sts) p2 :: hs) ((hc, some i, su) :: l) ((.ref (S.ca hc), some i, fun a cls d => uS (S.sx a cls d) kd su) :: cl)
theorem XHs.cls {S : Sx} {kd : Kd} : ∀ {hs : List ExceptHandler} {l : List Hdl} {cl : List Clause}, XHs S kd hs l cl → Cls' S.X hs cl
  | _, _, _, .nil => .nil
  | _, _, _, .plain hn h r => .plain hn (fun a oe cls d pn z f => pss_uS (h a oe cls d pn z f)) r.cls
  | _, _, _, .named hN hi hl hn h r => .named hN hi hl hn (fun a oe cls d pn z f => pss_uS (h a oe cls d pn z f)) r.cls
section
variable {S : Sx} {kd : Kd}
theorem Ok.ofSu {H0 G0 H G : Hp} {σ : St} {ρ : Rho} {a : Addr} {cls : Value} {d : Option Addr} (q : Ok (S.sx a cls d) H0 G0 σ H G ρ) (h : ∀ (i : Nat) (er : Er), ρ[i]? ≠ some (.ex er)) : Ok S H0 G0 σ H G ρ :=
  ⟨q.st, q.len, fun i s e => by
    obtain ⟨ov, e1, e2⟩ := q.sl i s e
    refine ⟨ov, e1, ?_⟩
    cases s with
    | ex er => exact absurd e (h i er)
    | _ => exact e2, q.sep, q.pin⟩
theorem NoEx.at {ρ : Rho} (h : NoEx ρ = true) (i : Nat) (er : Er) : ρ[i]? ≠ some (.ex er) := fun e => by
  have := List.all_eq_true.mp h _ (List.mem_of_getElem? e)
  cases this
theorem Ok.gone {S' : Sx} {H0 G0 H G : Hp} {σ : St} {ρ : Rho} (q : Ok S' H0 G0 σ H G ρ) (i : Nat) : Ok S' H0 G0 (σ.set i none) H G (ρ.set i .un) := q.setG rfl trivial
theorem OutP.suite {a : Addr} {cls : Value} {d : Option Addr} {H0 G0 : Hp} {N : Ends} (o : Option Nat) : ∀ {r : Out}, OutP S kd H0 G0 N (outG o r) → OutP (S.sx a cls d) kd H0 G0 (goneE o N) r
  | .nx ρ, h => fun σ H G q => by
    unfold outG at h
    dsimp only at h
    split at h
    · rename_i c
      cases o with
      | none => exact h σ H G (q.ofSu (NoEx.at c))
      | some i => exact h _ H G ((q.gone i).ofSu (NoEx.at c))
    · exact h.elim
  | .brk ρ, h => fun σ H G q => by
    unfold outG at h
    dsimp only at h
    split at h
    · rename_i c
      cases o with
      | none => exact h σ H G (q.ofSu (NoEx.at c))
      | some i => exact h _ H G ((q.gone i).ofSu (NoEx.at c))
    · exact h.elim
  | .ct ρ, h => fun σ H G q => by
    unfold outG at h
    dsimp only at h
    split at h
    · rename_i c
      cases o with
      | none => exact h σ H G (q.ofSu (NoEx.at c))
      | some i => exact h _ H G ((q.gone i).ofSu (NoEx.at c))
    · exact h.elim
  | .ret dv, h => by
    cases o with
    | none => exact h
    | some i => exact h
  | .exc er ρ, h => h.elim
  | .stuck, h => h.elim
def fExF (i c j : Nat) : Rho → Rs D := fun ρ => match ρ[i]? with
  | some (.ex er) => if er.c = c then (match er.fs[j]? with
    | some d => .ok d
    | none => .stuck) else .stuck
  | _ => .stuck
end
end Ct

namespace Ct
open PySem PySem.Spec PyProof.Rows L2

def tyName : D → Option String
  | .none => some "NoneType"
  | .bool _ => some "bool"
  | .int _ => some "int"
  | .list _ => some "list"
  | .tuple _ => some "tuple"
  | _ => none
def sIsT (T : String) (x : D) : Rs D := match tyName x with
  | some n => match kitB n T with
    | some b => .ok (.bool b)
    | none => .stuck
  | none => .stuck
theorem Rp.tyX {K : PySem.W.Frag} {H : Hp} {v : V} {d : D} {n : String} (h : Rp H v d) (e : tyName d = some n) : TyX K H v (.type n) := by
  cases h with
  | non => cases e; exact .base .non
  | bl b => cases e; exact .base (.bl b)
  | int i => cases e; exact .base (.int i)
  | lst h _ => cases e; exact .base (.lst h)
  | tup h _ => cases e; exact .base (.tup h)
  | dct _ _ => cases e
  | ins _ _ => cases e
  | scr _ _ => cases e
section
variable {S : Sx} {e : Expr} {f : Rho → Rs D} {p p2 pos : Pos} {Tn : Str} {T : String}
theorem xisT (hm : S.X.mg "isinstance" = none) (h : XX S .b e f) (hT : S.X.mg Tn = none) (hv : bootBuiltins Tn = some (.type T)) (hg : Gl S.X "isinstance" := by rfl) (hg2 : Gl S.X Tn := by rfl) (hn : Tn ≠ "__name__" := by decide) (hd : (Tn == ("__debug__" : Str)) = false := by decide)
    (he : starEach (e :: [.Name Tn p2]) S.X.env = (false, eval e S.X.env) :: starEach [.Name Tn p2] S.X.env := by rfl) (he2 : starEach (.Name Tn p2 :: []) S.X.env = (false, eval (.Name Tn p2) S.X.env) :: starEach [] S.X.env := by rfl) (hpl : (backTo pos (starEach [.Name Tn p2] S.X.env)).any (·.1) = false := by rfl) :
    XX S .e (.Call (.Name "isinstance" p) [e, .Name Tn p2] [] pos) (fUn (sIsT T) f) :=
  let ⟨_, a1, a2⟩ := h
  ⟨_, pe_callB call_isi hg hm (by decide +kernel) (pa_cons a1 (pa_cons (pe_bltn (v := .ty T) hg2 hT hv rfl hn hd) pa_nil he2) he) (he := he) (hpl := hpl), fun H0 G0 σ H G ρ Q q w => by
    refine a2 H0 G0 σ H G ρ _ q (Wp.imp (Wp.bind w) (fun d wd v H1 G1 s1 r1 => ?_) fun _ z => z)
    unfold sIsT at wd
    split at wd
    · rename_i n en
      split at wd
      · rename_i b eb
        exact ⟨v, .ty T, .type n, .type T, b, rfl, .ty T, Rp.tyX r1 en, kit_ty eb, wp_ok wd _ H1 G1 s1 (.bl b)⟩
      · exact wd.elim
    · exact wd.elim⟩
end
def fIsE (i c : Nat) (b : Bool) : Rho → Rs D := fun ρ => match ρ[i]? with
  | some (.ex er) => if er.c = c then .ok (.bool b) else .stuck
  | _ => .stuck
section
variable {S : Sx}
end
end Ct

namespace Ct
open PySem PySem.Spec PyProof.Rows L2

def cfG : Nat → List Str
  | 0 => ["index"]
  | 1 => ["index"]
  | 4 => ["index"]
  | 5 => ["index", "amount"]
  | 6 => ["amount"]
  | 9 => ["continuation"]
  | _ => []
def ExF (prog : Program) (K : PySem.W.Frag) (mg : Str → Option Value) (C : Addr) (x : Str) (fs : List Str) : Prop := ∃ fI body, ExTxt prog K mg C fI x fs body ∧ ∀ w, InitOk prog w K mg C fI fs.length fs
section
variable {S : Sx} {kd : Kd}
theorem xs_raiseX {nm : Str} {fs : List Str} {c k : Nat} {e : Expr} {es : List Expr} {g : Rho → Rs (List D)} {p pos pos2 : Pos} (hc : S.X.calm = true) (tk : Takes S.X S.W) (T : ExF S.X.prog S.X.K S.X.mg (S.ca c) nm fs)
    (hcf : S.cf c = fs) (hr : Room k S.X.A) (ha : XA S .e (e :: es) g) (hfs : fs.length = (e :: es).length) (hsz : fs.length ≤ sizeLine) (hlen : ∀ ρ ds, g ρ = .ok ds → ds.length = fs.length) (hg : Gl S.X nm := by rfl) (hdb : (nm == ("__debug__" : Str)) = false := by decide)
    (he : starEach (e :: es) S.X.env = (false, eval e S.X.env) :: starEach es S.X.env := by rfl) (hpl : (backTo pos (starEach es S.X.env)).any (·.1) = false := by rfl) : XS S kd (.Raise (some (.Call (.Name nm p) (e :: es) [] pos)) none pos2) (fRaise c g) := by
  obtain ⟨fI, body, T, IO⟩ := T
  exact xs_raise hc tk T (IO _) rfl hcf hr ha hfs hsz hg hdb hlen he hpl
end
section
variable {P : Program} {w : World} {K : PySem.W.Frag} {mg : Str → Option Value} {base : Heap} {N : List Str} {qual : Str} {sc : Scope} {f : Addr} {cd : Value} {A : Around} {outer : List PySem.Env} {s : Shared} {H : Hp} {E : XK}
theorem tk_of : Takes (cxOf (L2.CX P w) P w K mg base N qual sc f cd A outer s H E) (fun cls d _ H => E cls d H) := takes_of rfl rfl rfl rfl
theorem pa_of : PassesOwn (model P w) (cxOf (L2.CX P w) P w K mg base N qual sc f cd A outer s H E).A (cxOf (L2.CX P w) P w K mg base N qual sc f cd A outer s H E).env (cxOf (L2.CX P w) P w K mg base N qual sc f cd A outer s H E).xe := passes_of (X := cxOf (L2.CX P w) P w K mg base N qual sc f cd A outer s H E) rfl
end
theorem ok_stuck {P : Program} {w : World} {K : PySem.W.Frag} {mg : Str → Option Value} {base : Heap} {k : Nat} {a : Addr} {fd : FuncData} {ps : List Str} {ca : Nat → Addr} {cf : Nat → List Str} {kd : Kd} : FnOk P w K mg base (L2.CX P w) k a fd ps (SpF ca cf kd ps.length fun _ => .stuck) where
  len := fun vs H Q E h => h.1
  run := fun A outer s H args us vs Q E _ _ _ _ h => by
    obtain ⟨_, _, _, _, _, w⟩ := h
    exact w.elim
def caOf (l : List Addr) : Nat → Addr := fun n => l.getD n 0
end Ct

namespace Ct
open PySem PySem.W PySem.Calls PySem.Spec PyProof.Rows L2

theorem scpOk1 {f : Str} (h : (iScope ["self", f]).names.lookup ("super" : Str) = some .globalImplicit) (h2 : (iScope ["self", f]).names.lookup ("__class__" : Str) = some .free) (h3 : (iScope ["self", f]).names.lookup f = some .local) (h4 : (("self" : Str) == f) = false) (h5 : (f == ("__debug__" : Str)) = false) : ScpOk [f] where
  l1 := h
  l2 := h2
  l3 := fun x hx => by
    cases List.mem_singleton.mp hx
    exact h3
  l4 := rfl
  cells := fun y hy => by
    rcases List.mem_cons.mp hy with rfl | hy
    · exact NameKind.noConfusion
    · rcases List.mem_cons.mp hy with rfl | hy
      · exact NameKind.noConfusion
      · rcases List.mem_cons.mp hy with rfl | hy
        · exact NameKind.noConfusion
        · rcases List.mem_cons.mp hy with rfl | hy
          · exact NameKind.noConfusion
          · cases hy
  nself := fun x hx => by
    cases List.mem_singleton.mp hx
    exact h4
  ndbg := fun x hx => by
    cases List.mem_singleton.mp hx
    exact h5
theorem mk_exF1 {P : Program} {K : Frag} {mg : Str → Option Value} {hh : Heap} {C fI : Addr} {nmC f msg : Str} {j : Nat} {p0 p1 p2 p3 p4 p5 q1 q2 q3 q4 s1 s2 : Pos} (X : K.In hh) (G : hh.Ns mainGlobals mg)
    {nm q : Str} {N : Addr} {bs bm : List Value} {sn : List Str} {sub : List Value} {ab : Bool} {col : Option Bool} {dd : Option Addr} {k0 k1 k2 k3 k5 : Option Value}
    {oc : Value} {od : Option Addr} {qual : Str} {kV doc pm : Value} {an : Option Addr} {cda : Addr} {ct : Value} {cc : Addr} {osl : Array (Option Value)} {ccl cl : Value} {cdd cld : Option Addr} {vs : Array Value} {ccs csl : Array (Option Value)} {file : Str} {tf : Tok}
    (gC : nsIn K mainGlobals nmC = some (some (.ref C))) (lC : K.lookup C = some (excClassObj nm q C N bs bm true sn sub ab col dd k0 k1 k2 k3 k5 "ValueError.__new__"))
    (sa : findIn K (.ref C) "__setattr__" = some (some (.builtin "object.__setattr__"))) (ga : findIn K (.ref C) "__getattribute__" = some (some (.builtin "BaseException.__getattribute__"))) (gg : findIn K (.ref C) "__getattr__" = some none) (nf : findIn K (.ref C) f = some none)
    (iC : findIn K (.ref C) "__init__" = some (some (.ref fI))) (tC : typeIn K (.ref fI) = some (.type "function")) (kC : keepIn K (.ref C) = true) (eC : subIn K (.ref C) (.type "BaseException") = some true) (vC : subIn K (.ref C) (.type "ValueError") = some true)
    (yC : typeIn K (.ref C) = some (.type "type")) (hC : hasDictIn K C = true) (mC : mroIn K C (.ref C) = some true) (oq : nsIn K cStatics "thirdparty.any" = some none) (sG : nsIn K mainGlobals "super" = some none)
    (lI : K.lookup fI = some ⟨oc, od, .func (ksFn "__init__" qual (iArgs [("self", s1), (f, s2)]) [iSup msg j p0 p1 p2 p3 p4 p5, iAsg f q1 q2 q3 q4] (iScope ["self", f]) .none kV doc pm an (.ref cda) ct cc), osl⟩)
    (cI : codeIn K (.ref cda) qual = true) (lD : K.lookup cda = some ⟨ccl, cdd, .fields vs, ccs⟩) (lE : K.lookup cc = some ⟨cl, cld, .cell (some (.ref C)), csl⟩)
    (sI : ks_superIn K C C "__init__" = some (some (.builtin "ValueError.__init__")))
    (vD : vs[2]? = some (.str file tf)) (fl : ((P.main.file : Str) == file) = true) (tp : (P.main.scope.names.lookup ("super" : Str)).isSome = false) (rb : PySem.HandSPX.refsVE bm = true) (so : SupOk ["self", f] fI msg j p0 p1 p2 p3 p4) (bo : BndOk [f] [iSup msg j p0 p1 p2 p3 p4 p5, iAsg f q1 q2 q3 q4]) (ao : AsgOk ["self", f] fI f q1 q2 q3 q4) (sc : ScpOk [f]) :
    ExF P K mg C nmC [f] := by
  have T : ExTxt P K mg C fI nmC [f] [iSup msg j p0 p1 p2 p3 p4 p5, iAsg f q1 q2 q3 q4] :=
    { gC := mg_of X G gC, cls := ⟨nm, q, N, bs, bm, sn, sub, ab, col, dd, k0, k1, k2, k3, k5, lC, rb⟩, sa := sa, ga := ga, gg := gg
      noF := fun x hx => by
        cases List.mem_singleton.mp hx
        exact nf
      iC := iC, tC := tC, kC := kC, exC := eC, veC := vC, tyC := yC, hdC := hC, mC := mC, supI := sI, opq := oq, supG := mg_none_of X G sG, top := tp
      fn := ⟨oc, od, qual, [s1, s2], .none, kV, doc, pm, an, cda, ct, cc, osl, ccl, cl, cdd, cld, vs, ccs, csl, file, tf, rfl, lI, cI, lD, vD, fl, lE⟩ }
  exact ⟨fI, _, T, fun w => initOk1 T so ao sc bo⟩
theorem cx_nil {P : Program} {w : World} {H : Hp} {s : Shared} {e : Value} {s' : Shared} (h : L2.CX P w [] H s (fun _ _ _ => False) e s') : False := by
  obtain ⟨_, _, _, _, _, _, _, _, _, _, _, _, z⟩ := h
  exact z
def spLw (K : PySem.W.Frag) (n : Nat) : Sp := fun vs H Q _ => ∃ (a : Addr) (ns : List Int), vs = [.ref a] ∧ SqL K H a (ns.map V.int) ∧ ns.length ≤ n ∧ (∀ z ∈ ns, Builtin.Int.intBits z ≤ 1048576) ∧ Only H ∧ ∀ H', Q (.bl true) H'
def scriptD (ns : List Int) : D := .dict [(.bool true, .list (ns.map PyData.int))]
theorem rpl_ints {G : Hp} : ∀ ns : List Int, RpL G (ns.map V.int) (ns.map PyData.int)
  | [] => .nil
  | n :: ns => .cons (.int n) (rpl_ints ns)
def NoLst (K : Frag) : Prop := K.all (fun p => match p.2.cls with | .type s => !(s == "list") | _ => true) = true
theorem look_mem {K : Frag} {a : Addr} {o : Obj} (h : K.lookup a = some o) : (a, o) ∈ K := by
  induction K with
  | nil => cases h
  | cons p r ih =>
    obtain ⟨b, o2⟩ := p
    by_cases e : a == b
    · rw [List.lookup_cons, e] at h
      cases h
      rw [LawfulBEq.eq_of_beq e]
      exact List.mem_cons_self
    · rw [List.lookup_cons, Bool.eq_false_iff.mpr e] at h
      exact List.mem_cons_of_mem _ (ih h)
theorem sp_lw {K : Frag} {ca : Nat → Addr} {n : Nat} {f : List D → Rs D} (nl : NoLst K) (hf : ∀ ns : List Int, ns.length ≤ n → (∀ z ∈ ns, Builtin.Int.intBits z ≤ 1048576) → f [scriptD ns] = .ok (.bool true)) {vs : List V} {H : Hp} {Q : VK} {E : XK} (h : spLw K n vs H Q E) : SpF ca cfG .e 1 f vs H Q E := by
  obtain ⟨a, ns, rfl, hS, hl, hb, hO, q⟩ := h
  have ha : ∃ o, H a = some (.frz o (.lst (ns.map V.int))) := by
    rcases hS with (h | ⟨o, h⟩) | ⟨o, its, m, h, hc, _⟩
    · rcases hO a with z | ⟨_, _, z⟩
      · rw [h] at z; cases z
      · rw [h] at z; cases z
    · exact ⟨o, h⟩
    · have z := List.all_eq_true.mp nl _ (look_mem h)
      rw [show (a, o).2.cls = .type "list" from hc] at z
      exact absurd z (by decide)
  obtain ⟨o, ha⟩ := ha
  refine ⟨rfl, H, [scriptD ns], Same.refl _, .cons (.scr ha (rpl_ints ns)) .nil, ?_⟩
  rw [hf ns hl hb]
  intro v H' G' _ r
  have r : Rp G' v (.bool true) := r
  cases Rp.bl_inv r
  exact q H'
theorem law_end {P : Program} {w : World} {K : Frag} {mg : Str → Option Value} {base : Heap} {ca : Nat → Addr} {k n : Nat} {fa : Addr} {fd : FuncData} {f : List D → Rs D} (F : FnOk P w K mg base (L2.CX P w) k fa fd ["_law_script"] (SpF ca cfG .e 1 f)) (nl : NoLst K)
    (hf : ∀ ns : List Int, ns.length ≤ n → (∀ z ∈ ns, Builtin.Int.intBits z ≤ 1048576) → f [scriptD ns] = .ok (.bool true)) : FnOk P w K mg base (L2.CX P w) k fa fd ["_law_script"] (spLw K n) := F.imp fun _ _ _ _ h => sp_lw nl hf h
theorem bindD_none {K : Frag} {fd : FuncData} {ps : List Str} (h : ∃ ds, Vals [.non] ds ∧ Binds K fd ps ds) : BindD K fd ps .none := let ⟨ds, h1, h2⟩ := h; ⟨ds, .non, fun _ => .non, h1, h2⟩
theorem bindD_zero {K : Frag} {fd : FuncData} {ps : List Str} (h : ∃ ds, Vals [.int 0] ds ∧ Binds K fd ps ds) : BindD K fd ps (.int 0) := let ⟨ds, h1, h2⟩ := h; ⟨ds, .int 0, fun _ => .int 0, h1, h2⟩
theorem df_mk {P : Program} {w : World} {K : Frag} {mg : Str → Option Value} {base : Heap} {ca : Nat → Addr} {cf : Nat → List Str} {k m : Nat} {x : Str} {a : Addr} {fd : FuncData} {ps : List Str} {kd : Kd} {f : List D → Rs D} (ok : FnOk P w K mg base (L2.CX P w) k a fd ps (SpF ca cf kd m f)) (hm : m = ps.length) (gm : mg x = some (.ref a)) (kp : keepIn K (.ref a) = true) (len : ∀ ds, ds.length ≠ ps.length → f ds = .stuck) : Df P w K mg base ca cf k x a fd ps kd f := by
  subst hm
  exact ⟨ok, gm, kp, len⟩
end Ct

namespace Ct
open PySem PySem.W PySem.Calls PySem.Spec PyProof.Rows L2

end Ct

namespace PySem
open Sem (wp)
open AutoSeq1 (wpAny_loadPart')
section
variable {prog : Program} {w : World} {A : Around} {E : Value → Shared → Prop} {s : Shared}
end
end PySem

namespace Ct
open PySem PySem.Spec PyProof.Rows L2
def kLR (d : D) : Rs D := match d with
  | .list ds => .ok (.list ds.reverse)
  | _ => .stuck
def fLstRev (f : Rho → Rs D) : Rho → Rs D := fun ρ => (f ρ).bind kLR
end Ct

namespace Ct
open PySem PySem.Spec PyProof.Rows L2
inductive EcL (K : PySem.W.Frag) (ca : Nat → Addr) (cv : Value) : List (Nat × Bool) → Prop
  | nil : EcL K ca cv []
  | cons {c : Nat} {b : Bool} {l : List (Nat × Bool)} (T : ExcC K (ca c)) (h : PySem.W.kitOne K (.ref (ca c)) cv = some b) (r : EcL K ca cv l) : EcL K ca cv ((c, b) :: l)
theorem EcL.at {K : PySem.W.Frag} {ca : Nat → Addr} {cv : Value} : ∀ {l : List (Nat × Bool)}, EcL K ca cv l → ∀ p ∈ l, ExcC K (ca p.1) ∧ PySem.W.kitOne K (.ref (ca p.1)) cv = some p.2
  | _, .cons T h r, p, hp => by
    rcases List.mem_cons.mp hp with rfl | hp
    · exact ⟨T, h⟩
    · exact r.at p hp
section
variable {S : Sx}
end
end Ct

namespace Ct
open PySem PySem.Spec PyProof.Rows L2

theorem RT.of_sc {H G : Hp} {k : Sh} {v : V} {d : D} {f : List Addr} (hx : k ≠ .x) (s : scal1 d = true) (r : RT H G k v d f) : Rp G v d := by
  cases r with
  | good h => exact h
  | hole => exact absurd rfl hx
  | sc _ h => exact h
  | lst _ _ _ _ => cases s
  | tup _ _ _ _ => cases s
  | ins _ e _ _ _ => rw [e] at s; cases s
theorem nd1 {p : Addr} : [p].Nodup := by simp
theorem RTL.unput {H G : Hp} : ∀ (n : Nat) {k : Sh} {vs : List V} {ds : List D} {fp : List Addr}, RTL H G (k.put n (k.at' n)) vs ds fp → RTL H G k vs ds fp := by
  intro n
  induction n with
  | zero =>
    intro k vs ds fp h
    cases k with
    | g => exact h
    | x => exact h
    | r s =>
      have h : RTL H G (.c s (.r s)) vs ds fp := h
      cases h with
      | nil => exact .nil
      | con a b => exact .rep a b
    | c s k => exact h
  | succ n ih =>
    intro k vs ds fp h
    cases k with
    | g => exact h
    | x => exact h
    | r s =>
      have h : RTL H G (.c s ((Sh.r s).put n ((Sh.r s).at' n))) vs ds fp := by
        have e : (Sh.r s).at' n = s := by cases n <;> rfl
        rw [e]
        exact h
      cases h with
      | nil => exact .nil
      | con a b => exact .rep a (ih b)
    | c s k =>
      have h : RTL H G (.c s (k.put n (k.at' n))) vs ds fp := h
      cases h with
      | nil => exact .nil
      | con a b => exact .con a (ih b)
section
variable {S : Sx} {e : Expr} {f : Rho → Rs D} {k : Sh}
theorem XX.o_w (h : XX S .o e f) : XX S (.w (.r .g)) e f := let ⟨t, a, b⟩ := h; ⟨t, a, fun H0 G0 σ H G ρ Q q w => b H0 G0 σ H G ρ Q q (w.imp (fun d q v H' G' s r => by
  obtain ⟨p, vs, ds, rfl, rfl, c, d, e, f⟩ := r
  exact q _ H' G' s ⟨[p], .lst rfl c e (.good f), nd1, fun q hq => by rw [List.mem_singleton.mp hq]; exact d⟩) fun _ z => z)⟩
theorem XX.e_w (h : XX S .e e f) : XX S (.w .g) e f := let ⟨t, a, b⟩ := h; ⟨t, a, fun H0 G0 σ H G ρ Q q w => b H0 G0 σ H G ρ Q q (w.imp (fun d q v H' G' s r => q _ H' G' s ⟨[], .good r, List.nodup_nil, fun _ hq => nomatch hq⟩) fun _ z => z)⟩
theorem XX.w_e (hk : k.full = true) (h : XX S (.w k) e f) : XX S .e e f := let ⟨t, a, b⟩ := h; ⟨t, a, fun H0 G0 σ H G ρ Q q w => b H0 G0 σ H G ρ Q q (w.imp (fun d q v H' G' s r => by
  obtain ⟨fp, r1, r2, r3⟩ := r
  obtain ⟨G2, t2, gg, rp, _⟩ := r1.give s hk r2 r3
  exact q v H' G2 t2 rp) fun _ z => z)⟩
def XAW (S : Sx) (k : Sh) (es : List Expr) (g : Rho → Rs (List D)) : Prop := ∃ t, PA S.X es t ∧ ∀ H0 G0 σ H G ρ (Q : List V → Hp → Prop), Ok S H0 G0 σ H G ρ → Wp (g ρ) (fun ds => ∀ vs H' G', Step H G H' G' → (∃ fp, RTL H' G' k vs ds fp ∧ fp.Nodup ∧ ∀ p ∈ fp, H p = none) → Q vs H') (ExW S σ H G) → t σ H Q
theorem aw_nil : XAW S k [] aNil := ⟨_, pa_nil, fun H0 G0 σ H G ρ Q q w => w [] H G (Step.refl q.st.sub) ⟨[], .nil, List.nodup_nil, fun _ h => nomatch h⟩⟩
theorem RTL.newO {H0 G0 H G H1 G1 : Hp} {k : Sh} {vs : List V} {ds : List D} {fp : List Addr} {p : Addr} {o : HO} (hn : H1 p = none) (s : Same G1 H1) (r : RTL H1 G1 k vs ds fp) : RTL (upd H1 p o) G1 k vs ds fp := r.mono (Same.refl _) fun q hq => ⟨(r.own q hq).2, by
  rw [upd_ne]
  intro z
  subst z
  exact (r.own q hq).1 hn⟩
theorem xlstW {es : List Expr} {pos : Pos} {g : Rho → Rs (List D)} (hk : k.node = true) (h : XAW S k es g) : XX S (.w k) (.List es pos) (fLst g) :=
  let ⟨_, a1, a2⟩ := h; ⟨_, pe_lst a1, fun H0 G0 σ H G ρ Q q w => by
    refine a2 H0 G0 σ H G ρ _ q (Wp.imp w.bind (fun ds wd vs H1 G1 s1 r1 => ?_) fun _ z => z)
    split at wd
    · rename_i hl
      obtain ⟨fp, r, nd, hf⟩ := r1
      refine ⟨by rw [r.length]; exact hl, fun p hp => ?_⟩
      have gp : G1 p = none := Same.free s1.sub hp
      exact wd _ _ _ (s1.trans (Step.newO s1.sub hp)) ⟨p :: fp, .lst hk upd_same gp (RTL.newO (H0 := H) (G0 := G) (H := H) (G := G) hp s1.sub r), List.nodup_cons.mpr ⟨fun z => (r.own p z).1 hp, nd⟩, fun q hq => by
        rcases List.mem_cons.mp hq with rfl | hq
        · exact Same.free s1.hh hp
        · exact hf q hq⟩
    · exact wd.elim⟩
end

def slW (k : Sh) (d : D) : Sl := match k with
  | .x => .un
  | .g => .va d
  | k => if scal1 d = true then .va d else match k, d with
    | .r .g, .list ds => .ow ds
    | k, d => .ot k d
theorem slW_rel {S : Sx} {H0 H G : Hp} {k : Sh} {v : V} {d : D} {f : List Addr} (r : RT H G k v d f) (nd : f.Nodup) (h0 : ∀ p ∈ f, H0 p = none) : SlR S H0 H G (some v) (slW k d) ∧ ∀ q, FP H G (some (some v)) q (slW k d) → q ∈ f := by
  have tree : SlR S H0 H G (some v) (.ot k d) ∧ ∀ q, FP H G (some (some v)) q (.ot k d) → q ∈ f := ⟨⟨v, f, rfl, r, nd, h0⟩, fun q ⟨v', f', e, r', hq⟩ => by
    cases e
    rw [r.uniq r']
    exact hq⟩
  have main : k ≠ .x → scal1 d = true → SlR S H0 H G (some v) (.va d) ∧ ∀ q, FP H G (some (some v)) q (.va d) → q ∈ f := fun hx s => ⟨⟨v, rfl, r.of_sc hx s⟩, fun q z => z.elim⟩
  cases k with
  | x => exact ⟨trivial, fun q z => z.elim⟩
  | g =>
    refine ⟨⟨v, rfl, ?_⟩, fun q z => z.elim⟩
    cases r with
    | good h => exact h
    | sc _ h => exact h
    | lst n _ _ _ => cases n
    | tup n _ _ _ => cases n
    | ins n _ _ _ _ => cases n
  | r s =>
    unfold slW
    dsimp only
    by_cases hs : scal1 d = true
    · rw [if_pos hs]
      exact main (fun z => nomatch z) hs
    · rw [if_neg hs]
      cases s with
      | g =>
        cases d with
        | list ds =>
          cases r with
          | sc z _ => cases z
          | lst n h g rl =>
            obtain ⟨a, b⟩ := RTL.of_good rl
            subst b
            exact ⟨⟨_, _, rfl, h, g, h0 _ List.mem_cons_self, a⟩, fun q z => by
              have z : some (some (V.ref _)) = some (some (V.ref q)) := z
              cases z
              exact List.mem_cons_self⟩
          | ins _ e _ _ _ => cases e
        | _ => exact tree
      | _ => exact tree
  | c s k =>
    unfold slW
    dsimp only
    by_cases hs : scal1 d = true
    · rw [if_pos hs]
      exact main (fun z => nomatch z) hs
    · rw [if_neg hs]
      exact tree
theorem Ok.setW {S : Sx} {H0 G0 H G H' G' : Hp} {σ : St} {ρ : Rho} (q : Ok S H0 G0 σ H G ρ) (t : Step H G H' G') {i : Nat} {v : V} {k : Sh} {d : D} {f : List Addr} (r : RT H' G' k v d f) (nd : f.Nodup) (hp : ∀ p ∈ f, H p = none) (hio : S.io i = none) : Ok S H0 G0 (σ.set i (some v)) H' G' (ρ.set i (slW k d)) := by
  obtain ⟨a, b⟩ := slW_rel (S := S) (H0 := H0) r nd fun p h => Same.free q.st.hh (hp p h)
  exact q.setN t a (fun p z => hp p (b p z)) fun _ => hio
def fAsgW (i : Nat) (k : Sh) (f : Rho → Rs D) : Rho → Out := fun ρ => (f ρ).out ρ fun d => .nx (ρ.set i (slW k d))
def fRetW (i : Nat) (k : Sh) : Rho → Out := fun ρ => match ρ[i]? with
  | some (.ow ds) => if k = .r .g then .ret (.list ds) else .stuck
  | some (.ot k' d) => if k = k' then .ret d else .stuck
  | some (.va d) => if scal1 d = true then .ret d else .stuck
  | _ => .stuck
def fT (i : Nat) : Rho → Rs D := fun ρ => match ρ[i]? with
  | some (.va d) => .ok d
  | some (.ow ds) => .ok (.list ds)
  | some (.ot k d) => if k.full = true then .ok d else .stuck
  | _ => .stuck
section
variable {S : Sx} {kd : Kd} {st : Stmt} {e : Expr} {f : Rho → Rs D} {te : TE} {i : Nat} {k : Sh} {pos : Pos}
theorem ts_setW (h : TV S (.w k) te f) (hio : S.io i = none := by rfl) : TSt S kd (tAsg te (gName i)) (fAsgW i k f) := fun H0 G0 σ H G ρ N q w =>
  h H0 G0 σ H G ρ _ q (Wp.imp (wp_out q w) (fun d wd v H1 G1 s1 r1 => by
    obtain ⟨fp, r, nd, hf⟩ := r1
    exact wd _ H1 G1 (q.setW s1 r nd hf hio)) fun _ z => z)
theorem xs_setW (hp : ∀ te, PE S.X e te → PS S.X st (tAsg te (gName i))) (h : XX S (.w k) e f) (hio : S.io i = none := by rfl) : XS S kd st (fAsgW i k f) :=
  let ⟨_, a1, a2⟩ := h; ⟨_, hp _ a1, ts_setW a2 hio⟩
theorem xs_retW {x : Str} {p : Pos} (hv : PE S.X (.Name x p) (tVar i)) : XS S (.w k) (.Return (some (.Name x p)) pos) (fRetW i k) :=
  ⟨_, ps_ret hv, fun H0 G0 σ H G ρ N q w => by
    unfold fRetW at w
    split at w
    · rename_i ds e
      obtain ⟨ov, e1, p, vs, rfl, h1, h2, h3, h4⟩ := q.sl i _ e
      split at w
      · rename_i hk
        subst hk
        exact ⟨_, e1, w _ H G q.st ⟨[p], .lst rfl h1 h2 (.good h4), nd1, fun q hq => by rw [List.mem_singleton.mp hq]; exact h3⟩⟩
      · exact w.elim
    · rename_i k' d e
      obtain ⟨ov, e1, v, fp, rfl, h1, h2, h3⟩ := q.sl i _ e
      split at w
      · rename_i hk
        subst hk
        exact ⟨_, e1, w _ H G q.st ⟨fp, h1, h2, h3⟩⟩
      · exact w.elim
    · rename_i d e
      obtain ⟨ov, e1, v, rfl, r⟩ := q.sl i _ e
      split at w
      · rename_i hk
        exact ⟨_, e1, w _ H G q.st ⟨[], .sc hk r, List.nodup_nil, fun _ h => nomatch h⟩⟩
      · exact w.elim
    · exact w.elim⟩
theorem tb_tree (i : Nat) : TV S .b (tVar i) (fT i) := fun H0 G0 σ H G ρ Q q w => by
  unfold fT at w
  split at w
  · rename_i d e
    obtain ⟨ov, e1, v, rfl, r⟩ := q.sl i _ e
    exact ⟨v, e1, w v H G (Step.refl q.st.sub) (r.mono q.st.sub)⟩
  · rename_i ds e
    obtain ⟨ov, e1, p, vs, rfl, h1, h2, h3, h4⟩ := q.sl i _ e
    exact ⟨_, e1, w _ H G (Step.refl q.st.sub) (.lst h1 (h4.mono q.st.sub))⟩
  · rename_i k d e
    obtain ⟨ov, e1, v, fp, rfl, h1, h2, h3⟩ := q.sl i _ e
    split at w
    · rename_i hk
      exact ⟨_, e1, w _ H G (Step.refl q.st.sub) (h1.rp q.st.sub hk)⟩
    · exact w.elim
  · exact w.elim
theorem xbt (i : Nat) {x : Str} {pos : Pos} (hN : S.X.N[i]? = some x := by rfl) (hv : Vis S.X.env.scope x := by first | exact Or.inl rfl | exact Or.inr (Or.inl rfl) | exact Or.inr (Or.inr rfl)) (hd : (x == ("__debug__" : Str)) = false := by decide)
    (hcd : (x == ("__classdict__" : Str)) = false := by decide) : XX S .b (.Name x pos) (fT i) := ⟨_, pe_var hN hv hd hcd, tb_tree i⟩
end
end Ct

namespace PySem.SeqAt
open AutoSeq1 (wpAny_loadPart')
open MeetsSeq MeetsSeq2 MeetsSeq3 SeqRoads2 PyProof.Rows L2
section
variable {prog : Program} {w : World}
end
end PySem.SeqAt
namespace Ct
open PySem PySem.Spec PyProof.Rows L2
end Ct

namespace Ct
open PySem PySem.Spec PyProof.Rows L2

def kidS : D → Option (List D)
  | .list ds => some ds
  | .tuple ds => some ds
  | _ => none
def cellOf (d : D) (vs : List V) : HO := match d with
  | .tuple _ => .tup vs
  | _ => .lst vs
def setS (d : D) (ds : List D) : D := match d with
  | .tuple _ => .tuple ds
  | _ => .list ds
theorem RT.seq {H G : Hp} {k : Sh} {v : V} {d : D} {f : List Addr} {ds : List D} (r : RT H G k v d f) (hk : k.node = true) (hd : kidS d = some ds) : ∃ a vs fp, v = .ref a ∧ f = a :: fp ∧ H a = some (cellOf d vs) ∧ G a = none ∧ RTL H G k vs ds fp := by
  cases r with
  | good h => cases hk
  | hole => cases hk
  | sc s _ => cases d <;> first | (cases s; done) | (cases hd; done)
  | lst n h g rl => cases hd; exact ⟨_, _, _, rfl, rfl, h, g, rl⟩
  | tup n h g rl => cases hd; exact ⟨_, _, _, rfl, rfl, h, g, rl⟩
  | ins _ e _ _ _ => rw [e] at hd; cases hd
theorem RT.mk {H G : Hp} {k : Sh} {a : Addr} {d : D} {vs : List V} {ds ds' : List D} {fp : List Addr} (hk : k.node = true) (hd : kidS d = some ds) (h : H a = some (cellOf d vs)) (g : G a = none) (r : RTL H G k vs ds' fp) : RT H G k (.ref a) (setS d ds') (a :: fp) := by
  cases d with
  | list _ => exact .lst hk h g r
  | tuple _ => exact .tup hk h g r
  | _ => cases hd
theorem setS_self {d : D} {ds : List D} (h : kidS d = some ds) : setS d ds = d := by
  cases d with
  | list _ => cases h; rfl
  | tuple _ => cases h; rfl
  | _ => cases h
theorem sq_cell {K : PySem.W.Frag} {H : Hp} {a : Addr} {d : D} {vs : List V} {ds : List D} (hd : kidS d = some ds) (h : H a = some (cellOf d vs)) : SqL K H a vs ∨ SqT K H a vs := by
  cases d with
  | list _ => exact .inl (.of h)
  | tuple _ => exact .inr (.of h)
  | _ => cases hd
theorem rix_cell {K : PySem.W.Frag} {H : Hp} {a : Addr} {d : D} {vs : List V} {ds : List D} {n : Int} {m : Nat} {v : V} {Q : VK} (hd : kidS d = some ds) (h : H a = some (cellOf d vs)) (hl : vs.length = ds.length) (hm : ixN ds.length n = some m) (hv : vs[m]? = some v) (q : Q v H) :
    rIxL K (.ref a) (.int n) H Q ∨ rIxT K (.ref a) (.int n) H Q := by
  have e : atI vs n = some v := by
    unfold atI
    rw [hl, hm]
    exact hv
  rcases sq_cell (K := K) hd h with z | z
  · exact .inl ⟨a, vs, n, v, rfl, rfl, z, e, q⟩
  · exact .inr ⟨a, vs, n, v, rfl, rfl, z, e, q⟩

def fAppW (i : Nat) (s : Sh) (f : Rho → Rs D) : Rho → Out := fun ρ => match ρ[i]? with
  | some (.ot k (.list ds)) => if k.node = true ∧ k.at' ds.length = s ∧ ds.length < sizeLine then (f ρ).out ρ fun d => .nx (ρ.set i (.ot k (.list (ds ++ [d])))) else .stuck
  | _ => .stuck
section
variable {S : Sx} {kd : Kd} {st : Stmt} {e : Expr} {f : Rho → Rs D} {i : Nat} {s : Sh} {pos : Pos}
theorem ot_fp {H G : Hp} {σ : St} {i : Nat} {k : Sh} {v : V} {d : D} {f : List Addr} (e1 : σ[i]? = some (some v)) (r : RT H G k v d f) {q : Addr} (h : FP H G σ[i]? q (.ot k d)) : q ∈ f := by
  obtain ⟨v', f', a, b, c⟩ := h
  rw [e1] at a
  cases a
  rw [r.uniq b]
  exact c
theorem xs_appW (hp : ∀ ta, PA S.X [e] ta → PS S.X st (tDrop (tBM S.X.K "list" rAppend (tVar i) ta))) (h : XX S (.w s) e f) (he : starEach (e :: []) S.X.env = (false, eval e S.X.env) :: starEach [] S.X.env := by rfl) : XS S kd st (fAppW i s f) :=
  let ⟨_, a1, a2⟩ := h; ⟨_, hp _ (pa_cons a1 pa_nil he), fun H0 G0 σ H G ρ N q w => by
    unfold fAppW at w
    split at w
    · rename_i k ds eo
      obtain ⟨ov, e1, v, fp, rfl, h1, h2, h3⟩ := q.sl i _ eo
      split at w
      · rename_i c
        obtain ⟨hk, c1, c2⟩ := c
        obtain ⟨a, vs, fs, rfl, rfl, hc, hg, rl⟩ := h1.seq (ds := ds) hk rfl
        have hc : H a = some (.lst vs) := hc
        refine ⟨_, e1, .inl ⟨rfl, _, .of hc⟩, ?_⟩
        refine a2 H0 G0 σ H G ρ _ q (Wp.imp (wp_out q w) (fun d wd u H1 G1 s1 r1 => ?_) fun _ z => z)
        · obtain ⟨f1, r1, n1, p1⟩ := r1
          rw [← c1] at r1
          have hc1 := s1.hh _ _ hc
          refine ⟨a, vs, u, rfl, rfl, hc1, by rw [rl.length]; exact c2, ?_⟩
          have na : a ∉ f1 := fun z => by
            have := p1 a z
            rw [hc] at this
            cases this
          have nd := List.nodup_cons.mp h2
          have rl1 := rl.step s1
          have up : ∀ p, p ≠ a → upd H1 a (HO.lst (vs ++ [u])) p = H1 p := fun p hp => upd_ne hp
          have g1 := s1.sep a hg (by rw [hc]; exact Option.some_ne_none _)
          obtain ⟨f', rs, ef⟩ := RTL.snoc (H := upd H1 a (HO.lst (vs ++ [u]))) (G := G1) hk
            (rl1.mono (Same.refl _) fun p hp => ⟨(rl1.own p hp).2, up p (fun z => nd.1 (z ▸ hp))⟩)
            (r1.mono (Same.refl _) fun p hp => ⟨(r1.own p hp).2, up p (fun z => na (z ▸ hp))⟩)
          subst ef
          have rr : RT (upd H1 a (HO.lst (vs ++ [u]))) G1 k (.ref a) (.list (ds ++ [d])) (a :: (fs ++ f1)) := .lst hk upd_same g1 rs
          refine wd _ _ G1 (q.wr s1 eo ⟨_, _, e1, h1, List.mem_cons_self⟩ (fun ov' eo' => ?_) fun p hp => ?_)
          · rw [e1] at eo'
            cases eo'
            refine ⟨_, _, rfl, rr, ?_, fun p hp => ?_⟩
            · refine List.nodup_cons.mpr ⟨fun z => ?_, List.nodup_append.mpr ⟨nd.2, n1, fun x hx y hy z => ?_⟩⟩
              · rcases List.mem_append.mp z with z | z
                · exact nd.1 z
                · exact na z
              · subst z
                exact (rl.own x hx).1 (p1 x hy)
            · rcases List.mem_cons.mp hp with rfl | hp
              · exact h3 _ List.mem_cons_self
              · rcases List.mem_append.mp hp with hp | hp
                · exact h3 _ (List.mem_cons_of_mem _ hp)
                · exact Same.free q.st.hh (p1 p hp)
          · have := ot_fp e1 rr hp
            rcases List.mem_cons.mp this with rfl | hp
            · exact .inl ⟨_, _, e1, h1, List.mem_cons_self⟩
            · rcases List.mem_append.mp hp with hp | hp
              · exact .inl ⟨_, _, e1, h1, List.mem_cons_of_mem _ hp⟩
              · exact .inr (p1 p hp)
      · exact w.elim
    · exact w.elim⟩
end
end Ct

namespace Ct
open PySem PySem.Spec PyProof.Rows L2

theorem list_set_self {α : Type} {l : List α} {n : Nat} {x : α} (h : l[n]? = some x) : l.set n x = l := by
  apply List.ext_getElem?
  intro j
  by_cases e : n = j
  · subst e
    obtain ⟨hn, _⟩ := List.getElem?_eq_some_iff.mp h
    rw [List.getElem?_set_self hn, h]
  · rw [List.getElem?_set_ne e]
def fSetP (i : Nat) (fv fa fb : Rho → Rs D) : Rho → Out := fun ρ => (fv ρ).out ρ fun v => match ρ[i]? with
  | some (.ot k (.list ds)) => (fa ρ).out ρ fun a => match a with
    | .int n => match ixN ds.length n with
      | some m => match ds[m]? with
        | some (.list es) => if k.node = true ∧ k.at' m = .r .g then (fb ρ).out ρ fun b => match b with
          | .int n2 => match ixN es.length n2 with
            | some m2 => .nx (ρ.set i (.ot k (.list (ds.set m (.list (es.set m2 v))))))
            | none => .stuck
          | _ => .stuck
          else .stuck
        | _ => .stuck
      | none => .stuck
    | _ => .stuck
  | _ => .stuck
theorem Ok.child {S : Sx} {H0 G0 H G H' G' : Hp} {σ : St} {ρ : Rho} {i : Nat} {k : Sh} {ds es es' : List D} {m : Nat} {a c : Addr} {vs cvs cvs' : List V} {fp : List Addr} (q : Ok S H0 G0 σ H G ρ) (t : Step H G H' G')
    (eo : ρ[i]? = some (.ot k (.list ds))) (e1 : σ[i]? = some (some (.ref a))) (hk : k.node = true) (hc : k.at' m = .r .g) (nd : (a :: fp).Nodup) (h0 : ∀ p ∈ a :: fp, H0 p = none) (ha : H a = some (.lst vs)) (ga : G a = none) (rl : RTL H G k vs ds fp) (em : ds[m]? = some (.list es))
    (ev : vs[m]? = some (.ref c)) (hcc : H c = some (.lst cvs)) (re : RpL G' cvs' es') : Ok S H0 G0 σ (upd H' c (.lst cvs')) G' (ρ.set i (.ot k (.list (ds.set m (.list es'))))) := by
  obtain ⟨v, f0, f1, f2, ev', rfl, rc, rb⟩ := rl.split em
  rw [ev] at ev'
  cases ev'
  rw [hc] at rc
  obtain ⟨c', ws, fs, ec, rfl, hc', gc, rl'⟩ := rc.seq (ds := es) rfl rfl
  cases ec
  obtain ⟨_, rfl⟩ := RTL.of_good rl'
  have nd0 := List.nodup_cons.mp nd
  have cm : c ∈ a :: (f0 ++ ([c] ++ f2)) := by simp
  have nac : a ≠ c := fun z => nd0.1 (by rw [z]; simp)
  have n0 : ∀ p ∈ f0 ++ f2, p ≠ c := fun p hp z => by
    subst z
    have n1 := nd0.2
    rw [List.nodup_append] at n1
    obtain ⟨x1, x2, x3⟩ := n1
    rcases List.mem_append.mp hp with hp | hp
    · exact x3 p hp p (by simp) rfl
    · have := List.nodup_cons.mp (show (p :: f2).Nodup from x2)
      exact this.1 hp
  have own : ∀ p ∈ f0 ++ ([c] ++ f2), H p ≠ none ∧ G p = none := fun p hp => rl.own p hp
  have keep : ∀ p ∈ f0 ++ f2, G' p = none ∧ upd H' c (HO.lst cvs') p = H p := fun p hp => by
    have hp' : p ∈ f0 ++ ([c] ++ f2) := by
      rcases List.mem_append.mp hp with hp | hp
      · exact List.mem_append_left _ hp
      · exact List.mem_append_right _ (List.mem_append_right _ hp)
    obtain ⟨x, y⟩ := own p hp'
    refine ⟨t.sep p y x, ?_⟩
    rw [upd_ne (n0 p hp)]
    cases z : H p with
    | none => exact absurd z x
    | some o => exact t.hh p o z
  have gc' : G' c = none := t.sep c gc (by rw [hcc]; exact Option.some_ne_none _)
  have rc' : RT (upd H' c (HO.lst cvs')) G' (.r .g) (.ref c) (.list es') [c] := .lst rfl upd_same gc' (.good re)
  have rl2 := rb _ G' (k.at' m) (.ref c) (.list es') [c] t.gg keep (by rw [hc]; exact rc')
  have rl3 := rl2.unput
  rw [list_set_self ev] at rl3
  have ga' : G' a = none := t.sep a ga (by rw [ha]; exact Option.some_ne_none _)
  have ha' : upd H' c (HO.lst cvs') a = some (.lst vs) := by rw [upd_ne nac]; exact t.hh _ _ ha
  have rr : RT (upd H' c (HO.lst cvs')) G' k (.ref a) (.list (ds.set m (.list es'))) (a :: (f0 ++ ([c] ++ f2))) := .lst hk ha' ga' rl3
  have h1 : RT H G k (.ref a) (.list ds) (a :: (f0 ++ ([c] ++ f2))) := .lst hk ha ga rl
  refine q.wr t eo ⟨_, _, e1, h1, cm⟩ (fun ov' eo' => ?_) fun p hp => .inl ⟨_, _, e1, h1, ot_fp e1 rr hp⟩
  rw [e1] at eo'
  cases eo'
  exact ⟨_, _, rfl, rr, nd, h0⟩
section
variable {S : Sx} {kd : Kd} {st : Stmt} {e ea eb : Expr} {f fv fa fb : Rho → Rs D} {i j : Nat} {s : Sh} {pos : Pos}
theorem kid_flat {H G : Hp} {k : Sh} {vs : List V} {ds es : List D} {fp : List Addr} {m : Nat} (rl : RTL H G k vs ds fp) (hc : k.at' m = .r .g) (em : ds[m]? = some (.list es)) : ∃ c cvs, vs[m]? = some (.ref c) ∧ H c = some (.lst cvs) ∧ G c = none ∧ RpL G cvs es := by
  obtain ⟨v, f0, f1, f2, ev, rfl, rc, rb⟩ := rl.split em
  rw [hc] at rc
  obtain ⟨c', ws, fs, ec, rfl, hc', gc, rl'⟩ := rc.seq (ds := es) rfl rfl
  cases ec
  exact ⟨c', ws, ev, hc', gc, (RTL.of_good rl').1⟩
theorem xs_setP (hp : ∀ tv ta tb, PE S.X e tv → PE S.X ea ta → PE S.X eb tb → PS S.X st (tAsg tv (gSub (tOp (fun x y H Q => rIxL S.X.K x y H Q ∨ rIxT S.X.K x y H Q) (tVar i) ta) tb rSetL))) (h1 : XX S .e e fv) (h2 : XX S .e ea fa) (h3 : XX S .e eb fb) : XS S kd st (fSetP i fv fa fb) :=
  let ⟨_, a1, a2⟩ := h1; let ⟨_, b1, b2⟩ := h2; let ⟨_, c1, c2⟩ := h3; ⟨_, hp _ _ _ a1 b1 c1, fun H0 G0 σ H G ρ N q w => by
    refine a2 H0 G0 σ H G ρ _ q (Wp.imp (wp_out q w) (fun d wd v H1 G1 s1 r1 => ?_) fun _ z => z)
    have q1 := q.step s1
    split at wd
    · rename_i k ds eo
      obtain ⟨ov, e1, v0, fp, rfl, t1, t2, t3⟩ := q1.sl i _ eo
      refine ⟨_, e1, ?_⟩
      refine b2 H0 G0 σ H1 G1 ρ _ q1 (Wp.imp (wp_out q1 wd) (fun x wx vx H2 G2 s2 r2 => ?_) fun _ z => z)
      split at wx
      · rename_i n
        cases Rp.int_inv r2
        split at wx
        · rename_i m em
          split at wx
          · rename_i es ee
            split at wx
            · rename_i hk
              obtain ⟨a, vs, fs, rfl, rfl, ha, ga, rl⟩ := t1.seq (ds := ds) hk.1 rfl
              obtain ⟨c, cvs, ev, hcc, gc, rc⟩ := kid_flat rl hk.2 ee
              refine rix_cell (d := .list ds) (ds := ds) rfl (s2.hh _ _ ha) rl.length em ev ?_
              have q2 := q1.step s2
              refine c2 H0 G0 σ H2 G2 ρ _ q2 (Wp.imp (wp_out q2 wx) (fun y wy vy H3 G3 s3 r3 => ?_) fun _ z => z)
              split at wy
              · rename_i n2
                cases Rp.int_inv r3
                split at wy
                · rename_i m2 em2
                  have s23 := s2.trans s3
                  refine ⟨c, cvs, n2, m2, rfl, rfl, s23.hh _ _ hcc, by rw [rc.length]; exact em2, ?_⟩
                  exact wy _ _ G3 (q1.child s23 eo e1 hk.1 hk.2 t2 t3 ha ga rl ee ev hcc ((rc.mono s23.gg).set m2 (r1.mono s23.gg)))
                · exact wy.elim
              · exact wy.elim
            · exact wx.elim
          · exact wx.elim
        · exact wx.elim
      · exact wx.elim
    · exact wd.elim⟩
theorem Ok.take {S : Sx} {H0 G0 H G : Hp} {σ : St} {ρ : Rho} {i j : Nat} {k : Sh} {d d' : D} {ds : List D} {m : Nat} {v : V} {fp : List Addr} (q : Ok S H0 G0 σ H G ρ) (eo : ρ[i]? = some (.ot k d)) (hk : k.node = true) (hd : kidS d = some ds) (em : ds[m]? = some d')
    (e1 : σ[i]? = some (some v)) (r : RT H G k v d fp) (nd : fp.Nodup) (h0 : ∀ p ∈ fp, H0 p = none) (hio : S.io j = none) : ∃ a vs u, v = .ref a ∧ H a = some (cellOf d vs) ∧ vs.length = ds.length ∧ vs[m]? = some u ∧ Ok S H0 G0 (σ.set j (some u)) H G ((ρ.set i (.ot (k.put m .x) d)).set j (slW (k.at' m) d')) := by
  obtain ⟨a, vs, fs, rfl, rfl, ha, ga, rl⟩ := r.seq hk hd
  obtain ⟨u, f0, f1, f2, ev, rfl, rc, rb⟩ := rl.split em
  refine ⟨a, vs, u, rfl, ha, rl.length, ev, ?_⟩
  have nd0 := List.nodup_cons.mp nd
  have n1 := nd0.2
  rw [List.nodup_append] at n1
  obtain ⟨x1, x2, x3⟩ := n1
  rw [List.nodup_append] at x2
  obtain ⟨y1, y2, y3⟩ := x2
  have sub : ∀ p ∈ f0 ++ ([] ++ f2), p ∈ f0 ++ (f1 ++ f2) := fun p hp => by
    rcases List.mem_append.mp hp with hp | hp
    · exact List.mem_append_left _ hp
    · exact List.mem_append_right _ (List.mem_append_right _ hp)
  have rl' := rb H G .x u d' [] (Same.refl _) (fun p hp => ⟨(rl.own p (sub p hp)).2, rfl⟩) .hole
  rw [list_set_self ev, list_set_self em] at rl'
  have rr : RT H G (k.put m .x) (.ref a) d (a :: (f0 ++ ([] ++ f2))) := by
    have := RT.mk (ds' := ds) (Sh.put_node (n := m) (s := .x) hk) hd ha ga rl'
    rw [setS_self hd] at this
    exact this
  have hf1 : ∀ p ∈ f1, p ∈ a :: (f0 ++ (f1 ++ f2)) := fun p hp => List.mem_cons_of_mem _ (List.mem_append_right _ (List.mem_append_left _ hp))
  have hf0 : ∀ p ∈ a :: (f0 ++ ([] ++ f2)), p ∈ a :: (f0 ++ (f1 ++ f2)) := fun p hp => by
    rcases List.mem_cons.mp hp with rfl | hp
    · exact List.mem_cons_self
    · exact List.mem_cons_of_mem _ (sub p hp)
  obtain ⟨sa, sb⟩ := slW_rel (S := S) (H0 := H0) rc y1 fun p hp => h0 p (hf1 p hp)
  refine q.move eo (fun ov eo' => ?_) sa (fun p hp => ⟨_, _, e1, r, hf0 p (ot_fp e1 rr hp)⟩) (fun p hp => ⟨_, _, e1, r, hf1 p (sb p hp)⟩) (fun p hp hq => ?_) rfl hio
  · rw [e1] at eo'
    cases eo'
    refine ⟨_, _, rfl, rr, ?_, fun p hp => h0 p (hf0 p hp)⟩
    refine List.nodup_cons.mpr ⟨fun z => nd0.1 (sub _ z), List.nodup_append.mpr ⟨x1, y2, fun b hb c hc => x3 b hb c (List.mem_append_right _ hc)⟩⟩
  · have z1 := ot_fp e1 rr hp
    have z2 := sb p hq
    rcases List.mem_cons.mp z1 with rfl | z1
    · exact nd0.1 (List.mem_append_right _ (List.mem_append_left _ z2))
    · rcases List.mem_append.mp z1 with z1 | z1
      · exact x3 p z1 p (List.mem_append_left _ z2) rfl
      · exact y3 p z2 p z1 rfl
def fUnp (i j1 j2 : Nat) : Rho → Out := fun ρ => match ρ[i]? with
  | some (.ot k (.tuple [d1, d2])) => if k.node = true ∧ (k.put 0 .x).node = true ∧ j1 ≠ i ∧ j2 ≠ i then
      .nx ((((ρ.set i (.ot (k.put 0 .x) (.tuple [d1, d2]))).set j1 (slW (k.at' 0) d1)).set i (.ot ((k.put 0 .x).put 1 .x) (.tuple [d1, d2]))).set j2 (slW ((k.put 0 .x).at' 1) d2)) else .stuck
  | _ => .stuck
end
end Ct

namespace Ct
open PySem PySem.Spec PyProof.Rows L2
section
variable {S : Sx} {X' : Cx} {k : Kd}
end
end Ct

namespace Ct
open PySem PySem.Spec PyProof.Rows L2

def llD : List D → Option (List (List Int))
  | [] => some []
  | .list es :: r => (intsD es).bind fun ns => (llD r).map (ns :: ·)
  | _ :: _ => none
theorem llD_map : ∀ ls : List (List Int), llD (ls.map fun ns => PyData.list (ns.map PyData.int)) = some ls
  | [] => rfl
  | n :: ls => by
    show (intsD (n.map PyData.int)).bind (fun ns => (llD (ls.map fun ns => PyData.list (ns.map PyData.int))).map (ns :: ·)) = _
    rw [intsD_map, llD_map ls]
    rfl
def minLs : List (List Int) → List Int
  | [] => []
  | n :: ls => ls.foldl (fun a y => if _root_.HT.lexLt y a then y else a) n
def sLtL : D → D → Rs D
  | .list a, .list b => match intsD a, intsD b with
    | some ns, some ms => .ok (.bool (_root_.HT.lexLt ns ms))
    | _, _ => .stuck
  | _, _ => .stuck
def boolsD : List D → Option (List Bool)
  | [] => some []
  | .bool i :: r => (boolsD r).map (i :: ·)
  | _ :: _ => none
theorem boolsD_map : ∀ ns : List Bool, boolsD (ns.map PyData.bool) = some ns
  | [] => rfl
  | n :: ns => by
    show (boolsD (ns.map PyData.bool)).map (n :: ·) = _
    rw [boolsD_map ns]
    rfl
def sAny : D → Rs D
  | .list ds => match boolsD ds with
    | some bs => .ok (.bool (bs.any id))
    | none => .stuck
  | _ => .stuck
def fCh (o o' : D → D → Rs D) (fa fb fc : Rho → Rs D) : Rho → Rs D := fun ρ => (fa ρ).bind fun x => (fb ρ).bind fun y => (o x y).bind fun z => match z with
  | .bool true => (fc ρ).bind fun u => o' y u
  | .bool false => .ok (.bool false)
  | _ => .stuck
section
variable {S : Sx} {a b c e : Expr} {fa fb fc f : Rho → Rs D} {pos p : Pos}
end
section
variable {S : Sx} {a b c : Expr} {fa fb fc : Rho → Rs D} {pos : Pos}
end

def sMinL : D → Rs D
  | .list ds => match llD ds with
    | some (n :: ls) => .ok (.list ((minLs (n :: ls)).map PyData.int))
    | _ => .stuck
  | _ => .stuck
section
variable {S : Sx} {e : Expr} {pos p : Pos}
end
end Ct

namespace Ct
open PySem PySem.Spec PyProof.Rows L2

def isKey (n : Int) : D → Bool
  | .int m => decide (m = n)
  | _ => false
def getK (es : List (D × D)) (n : Int) : Option D := (es.find? fun p => isKey n p.1).map (·.2)
def putD (es : List (D × D)) (n : Int) (d : D) : List (D × D) := if (es.any fun p => isKey n p.1) = true then es.map (fun p => if isKey n p.1 = true then (p.1, d) else p) else es ++ [(.int n, d)]
def isInt1 : D → Bool
  | .int _ => true
  | _ => false
theorem Rp.dct_inv {G : Hp} {v : V} {es : List (D × D)} (h : Rp G v (.dict es)) (hk : es.all (fun p => isInt1 p.1) = true) : ∃ a o kvs, v = .ref a ∧ G a = some (.frz o (.dK kvs)) ∧ RpK G kvs es := by
  cases h with
  | dct h r => exact ⟨_, _, _, rfl, h, r⟩
  | ins h r => simp [isInt1] at hk
  | scr h r => simp [isInt1] at hk
def fD (f : Rho → Rs D) : Rho → Rs D := fun ρ => (f ρ).bind fun d => match d with
  | .dict es => if es.all (fun p => isInt1 p.1) = true then .ok (.dict es) else .stuck
  | _ => .stuck
def fOd (i : Nat) : Rho → Rs D := fun ρ => match ρ[i]? with
  | some (.od es) => .ok (.dict es)
  | _ => .stuck
def sDGet : D → D → Rs D
  | .dict es, .int n => match getK es n with
    | some d => .ok d
    | none => .stuck
  | _, _ => .stuck
def sDIn : D → D → Rs D
  | .int n, .dict es => .ok (.bool (getK es n).isSome)
  | _, _ => .stuck
def sDNotIn : D → D → Rs D
  | .int n, .dict es => .ok (.bool (!(getK es n).isSome))
  | _, _ => .stuck
section
variable {S : Sx} {a b : Expr} {fa fb f : Rho → Rs D} {pos p : Pos} {i : Nat}
def fDisp1 (fk fv : Rho → Rs D) : Rho → Rs D := fun ρ => (fk ρ).bind fun k => (fv ρ).bind fun v => match k with
  | .int n => .ok (.dict [(.int n, v)])
  | _ => .stuck
def fDPut (i : Nat) (fv fk : Rho → Rs D) : Rho → Out := fun ρ => (fv ρ).out ρ fun v => match ρ[i]? with
  | some (.od es) => (fk ρ).out ρ fun k => match k with
    | .int n => if es.length < sizeLine then .nx (ρ.set i (.od (putD es n v))) else .stuck
    | _ => .stuck
  | _ => .stuck
def fRetM (i : Nat) : Rho → Out := fun ρ => match ρ[i]? with
  | some (.od es) => .ret (.dict es)
  | _ => .stuck
end
end Ct

namespace Ct
open PySem PySem.Spec PyProof.Rows L2
def putAll (es : List (D × D)) (ps : List (Int × D)) : List (D × D) := ps.foldl (fun a p => putD a p.1 p.2) es
def compD (tg : Tg) (c : Rho → Rs Bool) (ek e : Rho → Rs D) (ρ : Rho) : List D → Rs (List (Int × D))
  | [] => .ok []
  | d :: ds => match tg d ρ with
    | .ok ρ1 => match c ρ1 with
      | .ok true => match ek ρ1 with
        | .ok (.int n) => match e ρ1 with
          | .ok y => (compD tg c ek e ρ ds).bind fun r => .ok ((n, y) :: r)
          | _ => .stuck
        | _ => .stuck
      | .ok false => compD tg c ek e ρ ds
      | _ => .stuck
    | _ => .stuck
def fDComp (vs : List Nat) (f : Rho → Rs (List D)) (tg : Tg) (c : Rho → Rs Bool) (ek e : Rho → Rs D) : Rho → Rs D := fun ρ => (f ρ).bind fun ds => if ds.length ≤ sizeLine then (match compD tg c ek e (wipeR ρ vs) ds with
  | .ok r => .ok (.dict (putAll [] r))
  | _ => .stuck) else .stuck
section
variable {S : Sx} {X' : Cx} {k : Kd}
end

def dictOf (f : Rho → Rs D) (g : List (D × D) → List D) : Rho → Rs (List D) := fun ρ => (fD f ρ).bind fun d => match d with
  | .dict es => .ok (g es)
  | _ => .stuck
def iKeys' (f : Rho → Rs D) : Rho → Rs (List D) := dictOf f fun es => es.map (·.1)
def iVals' (f : Rho → Rs D) : Rho → Rs (List D) := dictOf f fun es => es.map (·.2)
def iItems' (f : Rho → Rs D) : Rho → Rs (List D) := dictOf f fun es => es.map fun p => .tuple [p.1, p.2]
section
variable {S : Sx} {tg l : Expr} {f : Rho → Rs D} {apos cpos : Pos}
end
end Ct

namespace Ct
open PySem PySem.Spec PyProof.Rows L2

end Ct

namespace Ct
open PySem PySem.Spec PyProof.Rows L2

def keysI : List (D × D) → Option (List Int)
  | [] => some []
  | (.int n, _) :: r => (keysI r).map (n :: ·)
  | _ :: _ => none
def fSortK (f : Rho → Rs D) : Rho → Rs D := fun ρ => (f ρ).bind fun d => match d with
  | .dict es => match keysI es with
    | some ks => .ok (.list ((sortI ks).map PyData.int))
    | none => .stuck
  | _ => .stuck
def fMinV (f : Rho → Rs D) : Rho → Rs D := fun ρ => (f ρ).bind fun d => match d with
  | .dict es => match llD (es.map (·.2)) with
    | some (n :: ls) => .ok (.list ((minLs (n :: ls)).map PyData.int))
    | _ => .stuck
  | _ => .stuck
section
variable {S : Sx} {o : Expr} {f : Rho → Rs D} {p pos apos mpos : Pos}
end
end Ct

namespace Ct
open PySem PySem.Spec PyProof.Rows L2
section
variable {S : Sx} {kd : Kd} {st : Stmt} {ek e : Expr} {fk f : Rho → Rs D} {i : Nat}
end
def fCallKB (f : List D → Rs D) (g : Rho → Rs (List D)) (h : Rho → Rs D) : Rho → Rs D := fun ρ => (g ρ).bind fun ds => (h ρ).bind fun d => noE (f (ds ++ [d]))
def fCallDB (f : List D → Rs D) (d : D) (g : Rho → Rs (List D)) : Rho → Rs D := fun ρ => (g ρ).bind fun ds => noE (f (ds ++ [d]))
section
variable {S : Sx} {k : Nat} {a : Addr} {fd : FuncData} {ps : List Str} {kd : Kd} {f : List D → Rs D} {x y : Str} {p pos kpos : Pos} {e e2 : Expr} {es : List Expr} {g : Rho → Rs (List D)} {h : Rho → Rs D}
end
end Ct

namespace Ct
open PySem PySem.Spec PyProof.Rows L2
def isRf : V → Bool
  | .ref _ => true
  | _ => false
theorem RpL.sc {G G' : Hp} : ∀ {vs : List V} {ds : List D}, RpL G vs ds → ds.all scal1 = true → RpL G' vs ds
  | _, _, .nil, _ => .nil
  | _, _, .cons a b, h => by
    rw [List.all_cons, Bool.and_eq_true] at h
    exact .cons (a.scal h.1) (RpL.sc b h.2)
section
variable {S : Sx} {k : Nat} {a : Addr} {fd : FuncData} {ps : List Str} {f : List D → Rs D} {x y : Str} {p pos ppos apos mpos : Pos} {e : Expr} {es : List Expr} {g : Rho → Rs (List D)}
def fRet2 (i : Nat) (f : Rho → Rs D) : Rho → Out := fun ρ => (f ρ).out ρ fun d => match ρ[i]? with
  | some (.ow ds) => .ret (.tuple [d, .list ds])
  | _ => .stuck
end
end Ct

namespace Ct
open PySem PySem.Spec PyProof.Rows L2
end Ct

namespace Ct
open PySem PySem.Spec PyProof.Rows L2
def putG (G : Hp) (p : Addr) (xs : List V) : Hp := fun q => if q = p then some (.lst xs) else G q
theorem putG_at {G : Hp} {p : Addr} {xs : List V} : putG G p xs p = some (.lst xs) := if_pos rfl
theorem putG_ne {G : Hp} {p q : Addr} {xs : List V} (h : q ≠ p) : putG G p xs q = G q := if_neg h
theorem putG_same {G : Hp} {p : Addr} {xs : List V} (h : G p = none) : Same G (putG G p xs) := fun q o e => by
  have : q ≠ p := fun z => by rw [z, h] at e; cases e
  rw [putG_ne this]
  exact e
def XAi (S : Sx) (i : Nat) (es : List Expr) (g : Rho → Rs (List D)) : Prop := ∃ t, PA S.X es t ∧ ∀ H0 G0 σ H G ρ (Q : List V → Hp → Prop), Ok S H0 G0 σ H G ρ → ∀ p xs ds0, σ[i]? = some (some (.ref p)) → ρ[i]? = some (.ow ds0) → H p = some (.lst xs) → G p = none → RpL G xs ds0 →
  Wp (g ρ) (fun ds => ∀ vs H' G', Step H G H' G' → RpL (putG G' p xs) vs ds → Q vs H') (ExW S σ H G) → t σ H Q
section
variable {S : Sx} {i : Nat} {e : Expr} {es : List Expr} {f : Rho → Rs D} {g : Rho → Rs (List D)}
theorem ai_nil : XAi S i [] aNil := ⟨_, pa_nil, fun H0 G0 σ H G ρ Q q p xs ds0 _ _ _ _ _ w => w [] H G (Step.refl q.st.sub) .nil⟩
theorem ai_own {x : Str} {pos : Pos} (hN : S.X.N[i]? = some x := by rfl) (h2 : XAi S i es g) (hv : Vis S.X.env.scope x := by first | exact Or.inl rfl | exact Or.inr (Or.inl rfl) | exact Or.inr (Or.inr rfl)) (hd : (x == ("__debug__" : Str)) = false := by decide)
    (hcd : (x == ("__classdict__" : Str)) = false := by decide) (hs : starEach (.Name x pos :: es) S.X.env = (false, eval (.Name x pos) S.X.env) :: starEach es S.X.env := by rfl) : XAi S i (.Name x pos :: es) (aCons (fB i) g) :=
  let ⟨_, b1, b2⟩ := h2; ⟨_, pa_cons (pe_var hN hv hd hcd) b1 hs, fun H0 G0 σ H G ρ Q q p xs ds0 e1 e2 hp gp r w => by
    have w := w.bind
    unfold fB at w
    rw [e2] at w
    refine ⟨_, e1, ?_⟩
    refine b2 H0 G0 σ H G ρ _ q p xs ds0 e1 e2 hp gp r (Wp.imp (Wp.bind w) (fun y wy u H2 G2 s2 r2 => ?_) fun e z => z)
    have gp2 : G2 p = none := s2.sep p gp (by rw [hp]; exact Option.some_ne_none _)
    exact wy _ H2 G2 s2 (.cons (.lst putG_at (RpL.mono (s2.gg.trans (putG_same gp2)) r)) r2)⟩
end
theorem Rp.nref {G : Hp} {v : V} {d : D} (h : Rp G v d) (s : scal1 d = true) : isRf v = false := by
  cases h with
  | non => rfl
  | bl b => rfl
  | int i => rfl
  | _ => cases s
theorem Rp.ref_of {G : Hp} {v : V} {d : D} (h : Rp G v d) (s : scal1 d = false) : isRf v = true := by
  cases h with
  | non => cases s
  | bl b => cases s
  | int i => cases s
  | _ => rfl
theorem RpL.nrefs {G : Hp} : ∀ {vs : List V} {ds : List D}, RpL G vs ds → ds.all scal1 = true → vs.any isRf = false
  | _, _, .nil, _ => rfl
  | _, _, .cons a b, h => by
    rw [List.all_cons, Bool.and_eq_true] at h
    rw [List.any_cons, a.nref h.1, RpL.nrefs b h.2]
    rfl
theorem RpL.refs {G : Hp} : ∀ {vs : List V} {ds : List D}, RpL G vs ds → ds.any (fun d => !scal1 d) = true → vs.any isRf = true
  | _, _, .nil, h => by cases h
  | _, _, .cons (d := d) a b, h => by
    rw [List.any_cons, Bool.or_eq_true] at h
    rw [List.any_cons, Bool.or_eq_true]
    rcases h with h | h
    · exact .inl (a.ref_of (by simpa using h))
    · exact .inr (RpL.refs b h)
def flL (ds0 : List D) : D → Bool
  | .list es => es.all scal1 && (ds0.any (fun d => !scal1 d) || es.length != ds0.length)
  | _ => false
def noL (ds0 : List D) : D → Bool
  | .tuple xs => xs.all scal1
  | .list es => flL ds0 (.list es)
  | .dict es => es.all (fun p => isInt1 p.1) && es.all fun p => flL ds0 p.2
  | d => scal1 d
def delG (G : Hp) (p : Addr) : Hp := fun q => if q = p then none else G q
theorem delG_ne {G : Hp} {p q : Addr} {o : _} (h : G q = some o) (n : q ≠ p) : delG G p q = some o := by
  unfold delG
  rw [if_neg n]
  exact h
section
variable {G0 G : Hp} {p : Addr} {xs : List V} {ds0 : List D}
theorem Rp.flL (hp : G p = some (.lst xs)) (r0 : RpL G0 xs ds0) {v : V} {d : D} (h : Rp G v d) (f : flL ds0 d = true) : Rp (delG G p) v d := by
  cases h with
  | lst h hl =>
    rename_i a ys es
    have f : (_ && _) = true := f
    rw [Bool.and_eq_true, Bool.or_eq_true] at f
    obtain ⟨f1, f2⟩ := f
    refine .lst (delG_ne h fun z => ?_) (hl.sc f1)
    rw [z, hp] at h
    cases h
    rcases f2 with f2 | f2
    · have := RpL.nrefs hl f1
      rw [RpL.refs r0 f2] at this
      cases this
    · have := r0.length
      have := hl.length
      simp at f2
      omega
  | _ => cases f
theorem RpK.flL (hp : G p = some (.lst xs)) (r0 : RpL G0 xs ds0) : ∀ {kvs : List (Key × V)} {es : List (D × D)}, RpK G kvs es → (es.all fun p => Ct.flL ds0 p.2) = true → RpK (delG G p) kvs es
  | _, _, .nil, _ => .nil
  | _, _, .cons a b, h => by
    rw [List.all_cons, Bool.and_eq_true] at h
    exact .cons (a.flL hp r0 h.1) (RpK.flL hp r0 b h.2)
theorem Rp.noL (hp : G p = some (.lst xs)) (r0 : RpL G0 xs ds0) {v : V} {d : D} (h : Rp G v d) (f : noL ds0 d = true) : Rp (delG G p) v d := by
  cases d with
  | list es => exact h.flL hp r0 f
  | tuple es =>
    cases h with
    | tup h hl => exact .tup (delG_ne h fun z => by rw [z, hp] at h; cases h) (hl.sc f)
  | dict es =>
    have f : (_ && _) = true := f
    rw [Bool.and_eq_true] at f
    obtain ⟨a, o, kvs, rfl, h1, h2⟩ := Rp.dct_inv h f.1
    exact .dct (delG_ne h1 fun z => by rw [z, hp] at h1; cases h1) (RpK.flL hp r0 h2 f.2)
  | _ => exact h.scal f
end
def fCallN (i : Nat) (f : List D → Rs D) (g : Rho → Rs (List D)) : Rho → Rs D := fun ρ => match ρ[i]? with
  | some (.ow ds0) => (g ρ).bind fun as => (noE (f as)).bind fun d => if noL ds0 d = true then .ok d else .stuck
  | _ => .stuck
def allSc : D → Bool
  | .list es => es.all scal1
  | _ => false
def fCallNO (i : Nat) (f : List D → Rs D) (g : Rho → Rs (List D)) : Rho → Rs D := fun ρ => match ρ[i]? with
  | some (.ow _) => (g ρ).bind fun as => (noE (f as)).bind fun d => if allSc d = true then .ok d else .stuck
  | _ => .stuck
section
variable {S : Sx} {i k : Nat} {a : Addr} {fd : FuncData} {ps : List Str} {f : List D → Rs D} {x y : Str} {p pos : Pos} {e : Expr} {es : List Expr} {g : Rho → Rs (List D)}
theorem own_step {H1 G1 H2 G2 : Hp} {q : Addr} {xs : List V} (gp : G1 q = none) (sub : Same G1 H1) (hq : H1 q = some (.lst xs)) (s2 : Step H1 (putG G1 q xs) H2 G2) : Step H1 G1 H2 (delG G2 q) where
  hh := s2.hh
  gg := fun r o h => by
    have : r ≠ q := fun z => by rw [z, gp] at h; cases h
    exact delG_ne (s2.gg _ _ (by rw [putG_ne this]; exact h)) this
  sub := fun r o h => by
    unfold delG at h
    split at h
    · cases h
    · exact s2.sub _ _ h
  sep := fun r h1 h2 => by
    unfold delG
    split
    · rfl
    · rename_i ne
      exact s2.sep r (by rw [putG_ne ne]; exact h1) h2
theorem putG_sub {H1 G1 : Hp} {q : Addr} {xs : List V} (sub : Same G1 H1) (hq : H1 q = some (.lst xs)) : Same (putG G1 q xs) H1 := fun r o h => by
  unfold putG at h
  split at h
  · rename_i z
    cases h
    rw [z]
    exact hq
  · exact sub _ _ h
end
def fFl (f : Rho → Rs D) : Rho → Rs D := fun ρ => (f ρ).bind fun d => if scal1 d = true ∨ allSc d = true then .ok d else .stuck
end Ct

namespace Ct
open PySem PySem.Spec PyProof.Rows L2
def gLstU (K : PySem.W.Frag) (n : Nat) (t : TGs) : TG := fun v σ H Q => ∃ a xs, v = .ref a ∧ SqL K H a xs ∧ xs.length = n ∧ t xs σ H Q
theorem pg_lstU {X : Cx} {es : List Expr} {k : Nat} {t : TGs} {n : Nat} {pos : Pos} (hc : X.calm = true) (h : PGs X es t)
    (hn : (assignEach es X.env).length = n := by rfl) (hst : (assignEach es X.env).findIdx? (·.1) = none := by rfl) : PG X (.Tuple es k pos) (gLstU X.K n t) := by
  refine ⟨fun pins s σ H v u Q I r hw => ?_⟩
  obtain ⟨a, xs, e1, hq, hl, hw⟩ := hw
  subst e1
  cases r
  obtain ⟨its, rv, ⟨o, n', ho, hcl, _, hd⟩, hz⟩ := I.list hq
  have IL : s.heap.IsList a its.toArray := ⟨o, ho, hcl, n', hd⟩
  rw [PyProof.Rows.assign_Tuple]
  refine wpAny_bind (wpAny_standAt ?_)
  unfold unpack
  have hsz : (assignEach es X.env).length = its.toArray.size := by simp [hn, ← hl, rv.length]
  rw [hsz, hst]
  refine wpAny_bind (wpAny_holding (PySem.W.kun_itemsOf (I.ok.hd hc) IL fun h' hx => ?_))
  have I1 : Inv X pins σ H { s with heap := h' } := I.kept (t' := s.toks) fun b o e => hx b o (Nat.ne_of_lt (Heap.lt_size e)) e
  exact h.run pins _ σ H xs _ Q I1 (by simpa using rv) hw
def tgTl (l : List Tg) : Tg := fun d ρ => match d with
  | .list ds => tgL l ds ρ
  | _ => .stuck
theorem xg_lst {S : Sx} {es : List Expr} {k n : Nat} {pos : Pos} {is : List Nat} {fs : List Tg} (hp : ∀ t, PGs S.X es t → PG S.X (.Tuple es k pos) (gLstU S.X.K n t)) (hn : fs.length = n) (h : XGs S es is fs) : XG S (.Tuple es k pos) is (tgTl fs) :=
  let ⟨t, a1, a2⟩ := h; ⟨_, hp _ a1, fun H0 G0 σ H G ρ v d Q q r w => by
    unfold tgTl at w
    split at w
    · rename_i ds
      obtain ⟨a, xs, rfl, h1, h2⟩ := Rp.lst_inv r
      have len : ∀ (fs : List Tg) (ds : List D) (ρ : Rho) (P : Rho → Prop), Wp (tgL fs ds ρ) P (fun _ => False) → fs.length = ds.length := by
        intro fs
        induction fs with
        | nil => intro ds ρ P w; cases ds with
          | nil => rfl
          | cons _ _ => exact w.elim
        | cons f fs ih => intro ds ρ P w; cases ds with
          | nil => exact w.elim
          | cons d ds =>
            have w := Wp.bind w
            cases e : f d ρ with
            | ok ρ' => rw [e] at w; rw [List.length_cons, List.length_cons, ih ds ρ' P w]
            | exc _ => rw [e] at w; exact w.elim
            | stuck => rw [e] at w; exact w.elim
      exact ⟨a, xs, rfl, .of (q.st.sub _ _ h1), by rw [h2.length, ← len _ _ _ _ w, hn], a2 H0 G0 σ H G ρ xs ds Q q h2 w⟩
    · exact w.elim⟩
end Ct


namespace L2
open PySem PySem.Spec PyProof.Rows L2
abbrev ctS (w : World) : Obj := { cls := .type "set", dict := none, data := .set #[] 0 (.fresh 0 0 (!w.params.followText "set-order")) }
section
variable {P : Program} {w : World} {A : Around} {E : Value → Shared → Prop} {s : Shared}
end
end L2

namespace Ct
open PySem PySem.Spec PyProof.Rows L2
def rSetL (K : PySem.W.Frag) (w : World) : List V → Hp → VK → Prop := fun vs H Q => ∃ (a : Addr) (ns : List Int), vs = [V.ref a] ∧ SqL K H a (ns.map V.int) ∧ ns.length + 1 < scanBound ∧ ∀ p c, H p = none → c ≤ ns.length → Q (.ref p) (upd H p (SetO w p (fun j => decide (j ∈ ns)) c))
section
variable {S : Sx} {e : Expr} {f : Rho → Rs D} {p pos p2 pos2 : Pos}
end
end Ct


namespace Ct
open PySem PySem.Spec PyProof.Rows L2
theorem RTL.init {H G : Hp} : ∀ {k : Sh} {vs : List V} {ds : List D} {fp : List Addr}, RTL H G k vs ds fp → ∃ f' f2, RTL H G k vs.dropLast ds.dropLast f' ∧ fp = f' ++ f2
  | _, [], [], _, .nil => ⟨[], [], .nil, rfl⟩
  | .r s, [v], [d], _, .rep (f1 := f1) a .nil => ⟨[], f1 ++ [], .nil, rfl⟩
  | .r s, v :: v2 :: vs, d :: d2 :: ds, _, .rep (f1 := f1) a b => by
    obtain ⟨f', f2, h, e⟩ := RTL.init b
    exact ⟨f1 ++ f', f2, .rep a h, by rw [e, List.append_assoc]⟩
  | .c s k, [v], [d], _, .con (f1 := f1) a .nil => ⟨[], f1 ++ [], .nil, rfl⟩
  | .c s k, v :: v2 :: vs, d :: d2 :: ds, _, .con (f1 := f1) a b => by
    obtain ⟨f', f2, h, e⟩ := RTL.init b
    exact ⟨f1 ++ f', f2, .con a h, by rw [e, List.append_assoc]⟩
section
variable {S : Sx} {kd : Kd} {st : Stmt} {i : Nat}
end
end Ct

namespace Ct
open PySem PySem.Spec PyProof.Rows L2
section
variable {S : Sx} {e ea : Expr} {fa : Rho → Rs D} {i : Nat}
end
end Ct

namespace Ct
open PySem L2
@[simp] theorem q_fSkip  {ρ : _} : fSkip  ρ = (.nx ρ) := id rfl
@[simp] theorem q_fSeq  (g h : Rho → Out) {ρ : _} : fSeq g h ρ = (match g ρ with
  | .nx ρ' => h ρ'
  | o => o) := id rfl
@[simp] theorem q_fAsg  (i : Nat) (f : Rho → Rs D) {ρ : _} : fAsg i f ρ = ((f ρ).out ρ fun d => .nx (ρ.set i (.va d))) := id rfl
def kOwn (i : Nat) (ρ : Rho) (d : D) : Out := match d with
  | .list ds => .nx (ρ.set i (.ow ds))
  | _ => .stuck
@[simp] theorem q_kOwn (i : Nat) (ρ : Rho) (ds : List D) : kOwn i ρ (.list ds) = .nx (ρ.set i (.ow ds)) := id rfl
@[simp] theorem q_fAsgO  (i : Nat) (f : Rho → Rs D) {ρ : _} : fAsgO i f ρ = ((f ρ).out ρ (kOwn i ρ)) := id rfl
@[simp] theorem q_fRet  (f : Rho → Rs D) {ρ : _} : fRet f ρ = ((f ρ).out ρ fun d => .ret d) := id rfl
@[simp] theorem q_fRetV  (i : Nat) {ρ : _} : fRetV i ρ = (match ρ[i]? with
  | some (.ow ds) => .ret (.list ds)
  | _ => .stuck) := id rfl
@[simp] theorem q_fIf  (c : Rho → Rs Bool) (g h : Rho → Out) {ρ : _} : fIf c g h ρ = ((c ρ).out ρ fun b => if b = true then g ρ else h ρ) := id rfl
@[simp] theorem q_fDrop  (f : Rho → Rs D) {ρ : _} : fDrop f ρ = ((f ρ).out ρ fun _ => .nx ρ) := id rfl
@[simp] theorem q_fAug  (i : Nat) (o : D → D → Rs D) (f : Rho → Rs D) {ρ : _} : fAug i o f ρ = ((fBin o (fV i) f ρ).out ρ fun d => .nx (ρ.set i (.va d))) := id rfl
@[simp] theorem q_fUn  (o : D → Rs D) (fa : Rho → Rs D) {ρ : _} : fUn o fa ρ = ((fa ρ).bind o) := id rfl
@[simp] theorem q_fBin  (o : D → D → Rs D) (fa fb : Rho → Rs D) {ρ : _} : fBin o fa fb ρ = ((fa ρ).bind fun x => (fb ρ).bind fun y => o x y) := id rfl
@[simp] theorem q_fV  (i : Nat) {ρ : _} : fV i ρ = (match ρ[i]? with
  | some (.va d) => .ok d
  | _ => .stuck) := id rfl
@[simp] theorem q_fB  (i : Nat) {ρ : _} : fB i ρ = (match ρ[i]? with
  | some (.va d) => .ok d
  | some (.ow ds) => .ok (.list ds)
  | _ => .stuck) := id rfl
@[simp] theorem q_fC  (d : D) {ρ : _} : fC d ρ = (.ok d) := id rfl
@[simp] theorem q_aNil  {ρ : _} : aNil  ρ = (.ok []) := id rfl
@[simp] theorem q_aCons  (f : Rho → Rs D) (g : Rho → Rs (List D)) {ρ : _} : aCons f g ρ = ((f ρ).bind fun d => (g ρ).bind fun ds => .ok (d :: ds)) := id rfl
@[simp] theorem q_fTup  (g : Rho → Rs (List D)) {ρ : _} : fTup g ρ = ((g ρ).bind fun ds => if ds.length ≤ sizeLine then .ok (.tuple ds) else .stuck) := id rfl
@[simp] theorem q_fLst  (g : Rho → Rs (List D)) {ρ : _} : fLst g ρ = ((g ρ).bind fun ds => if ds.length ≤ sizeLine then .ok (.list ds) else .stuck) := id rfl
@[simp] theorem q_fCl  (o : List D → Rs D) (g : Rho → Rs (List D)) {ρ : _} : fCl o g ρ = ((g ρ).bind o) := id rfl
@[simp] theorem q_toB  (f : Rho → Rs D) {ρ : _} : toB f ρ = ((f ρ).bind fun d => match d with
  | .bool b => .ok b
  | _ => .stuck) := id rfl
@[simp] theorem q_toT  (f : Rho → Rs D) {ρ : _} : toT f ρ = ((f ρ).bind fun d => match d with
  | .none => .ok false
  | .bool b => .ok b
  | .int i => .ok (i != 0)
  | .list ds => .ok (!ds.isEmpty)
  | .tuple ds => .ok (!ds.isEmpty)
  | _ => .stuck) := id rfl
@[simp] theorem q_fNot  (f : Rho → Rs Bool) {ρ : _} : fNot f ρ = ((f ρ).bind fun b => .ok (!b)) := id rfl
@[simp] theorem q_fAnd  (f g : Rho → Rs Bool) {ρ : _} : fAnd f g ρ = ((f ρ).bind fun b => if b = true then g ρ else .ok false) := id rfl
@[simp] theorem q_fOr  (f g : Rho → Rs Bool) {ρ : _} : fOr f g ρ = ((f ρ).bind fun b => if b = true then .ok true else g ρ) := id rfl
@[simp] theorem q_fAndV  (f g : Rho → Rs D) {ρ : _} : fAndV f g ρ = ((toB f ρ).bind fun b => if b = true then g ρ else .ok (.bool false)) := id rfl
@[simp] theorem q_fOrV  (f g : Rho → Rs D) {ρ : _} : fOrV f g ρ = ((toB f ρ).bind fun b => if b = true then .ok (.bool true) else g ρ) := id rfl
@[simp] theorem q_fNotV  (f : Rho → Rs D) {ρ : _} : fNotV f ρ = ((toB f ρ).bind fun b => .ok (.bool (!b))) := id rfl
@[simp] theorem q_fIfE  (c : Rho → Rs Bool) (f g : Rho → Rs D) {ρ : _} : fIfE c f g ρ = ((c ρ).bind fun b => if b = true then f ρ else g ρ) := id rfl
@[simp] theorem q_fMut  (i : Nat) (f : Rho → Rs (List D)) (o : List D → List D → Rs (List D)) {ρ : _} : fMut i f o ρ = (match ρ[i]? with
  | some (.ow ds) => (f ρ).out ρ fun as => (o ds as).out ρ fun es => .nx (ρ.set i (.ow es))
  | _ => .stuck) := id rfl
def kLst (d : D) : Rs (List D) := match d with
  | .list ds => .ok ds
  | _ => .stuck
@[simp] theorem q_kLst (ds : List D) : kLst (.list ds) = .ok ds := id rfl
@[simp] theorem q_iLst  (f : Rho → Rs D) {ρ : _} : iLst f ρ = (f ρ).bind kLst := id rfl
def rg1 (j : Int) : Rs (List D) := if -(2 ^ 62) ≤ j ∧ j < 2 ^ 62 then .ok (rngD 0 j) else .stuck
def rg2 (i j : Int) : Rs (List D) := if -(2 ^ 62) ≤ i ∧ i < 2 ^ 62 ∧ -(2 ^ 62) ≤ j ∧ j < 2 ^ 62 then .ok (rngD i j) else .stuck
def kr1 (as : List D) : Rs (List D) := match as with
  | [.int j] => rg1 j
  | _ => .stuck
def kr2 (as : List D) : Rs (List D) := match as with
  | [.int i, .int j] => rg2 i j
  | _ => .stuck
@[simp] theorem q_iRg1 (g : Rho → Rs (List D)) {ρ : _} : iRg1 g ρ = (g ρ).bind kr1 := id rfl
@[simp] theorem q_iRg2 (g : Rho → Rs (List D)) {ρ : _} : iRg2 g ρ = (g ρ).bind kr2 := id rfl
@[simp] theorem q_kr1 (j : Int) : kr1 [.int j] = rg1 j := id rfl
@[simp] theorem q_kr2 (i j : Int) : kr2 [.int i, .int j] = rg2 i j := id rfl
theorem rg1_ok {j : Int} (h : -1000000 ≤ j) (h2 : j ≤ 1000000) : rg1 j = .ok (rngD 0 j) := if_pos ⟨by omega, by omega⟩
theorem rg2_ok {i j : Int} (h : -1000000 ≤ j) (h2 : j ≤ 1000000) (h3 : -1000000 ≤ i) (h4 : i ≤ 1000000) : rg2 i j = .ok (rngD i j) := if_pos ⟨by omega, by omega, by omega, by omega⟩
def enumD : Nat → List D → List D
  | _, [] => []
  | k, d :: ds => .tuple [.int (k : Int), d] :: enumD (k + 1) ds
theorem enum_map : ∀ (ds : List D) (k : Nat), (ds.mapIdx fun i d => PyData.tuple [.int ((k + i : Nat) : Int), d]) = enumD k ds
  | [], _ => rfl
  | d :: ds, k => by
    have := enum_map ds (k + 1)
    simp only [List.mapIdx_cons, enumD, Nat.add_zero]
    rw [← this]
    simp [Nat.add_assoc, Nat.add_comm 1]
theorem enum_map0 (ds : List D) : (ds.mapIdx fun i d => PyData.tuple [.int (i : Nat), d]) = enumD 0 ds := by
  rw [← enum_map ds 0]
  simp
def kEnu (d : D) : Rs (List D) := match d with
  | .list ds => .ok (enumD 0 ds)
  | _ => .stuck
@[simp] theorem q_kEnu (ds : List D) : kEnu (.list ds) = .ok (enumD 0 ds) := id rfl
@[simp] theorem q_iEnu  (f : Rho → Rs D) {ρ : _} : iEnu f ρ = (f ρ).bind kEnu := by
  have : iEnu f ρ = ((f ρ).bind fun d => match d with
    | .list ds => .ok (ds.mapIdx fun i d => .tuple [.int (i : Nat), d])
    | _ => .stuck) := id rfl
  rw [this]
  congr 1
  funext d
  cases d <;> simp [enum_map0, kEnu]
@[simp] theorem q_fFor  (f : Rho → Rs (List D)) (tg : Tg) (body : Rho → Out) {ρ : _} : fFor f tg body ρ = ((f ρ).out ρ fun ds => loopS tg body ds ρ) := id rfl
@[simp] theorem q_tgN  (i : Nat) {d ρ : _} : tgN i d ρ = (.ok (ρ.set i (.va d))) := id rfl
@[simp] theorem q_tgT  (l : List Tg) {d ρ : _} : tgT l d ρ = (match d with
  | .tuple ds => tgL l ds ρ
  | _ => .stuck) := id rfl
@[simp] theorem q_fYes  {ρ : _} : fYes  ρ = (.ok true) := id rfl
@[simp] theorem q_fCall  (f : List D → Rs D) (g : Rho → Rs (List D)) {ρ : _} : fCall f g ρ = ((g ρ).bind f) := id rfl
@[simp] theorem q_fCallB  (f : List D → Rs D) (g : Rho → Rs (List D)) {ρ : _} : fCallB f g ρ = ((g ρ).bind fun ds => noE (f ds)) := id rfl
@[simp] theorem q_fCallD  (f : List D → Rs D) (d : D) (g : Rho → Rs (List D)) {ρ : _} : fCallD f d g ρ = ((g ρ).bind fun ds => f (ds ++ [d])) := id rfl
@[simp] theorem q_fCallK  (f : List D → Rs D) (g : Rho → Rs (List D)) (h : Rho → Rs D) {ρ : _} : fCallK f g h ρ = ((g ρ).bind fun ds => (h ρ).bind fun d => f (ds ++ [d])) := id rfl
@[simp] theorem q_fSet  (i : Nat) (fv fk : Rho → Rs D) {ρ : _} : fSet i fv fk ρ = ((fv ρ).out ρ fun v => match ρ[i]? with
  | some (.ow ds) => (fk ρ).out ρ fun k => match k with
    | .int n => match ixN ds.length n with
      | some j => .nx (ρ.set i (.ow (ds.set j v)))
      | none => .stuck
    | _ => .stuck
  | _ => .stuck) := id rfl
@[simp] theorem q_fAsgT  (t : Tg) (f : Rho → Rs D) {ρ : _} : fAsgT t f ρ = ((f ρ).out ρ fun d => match t d ρ with
  | .ok ρ' => .nx ρ'
  | _ => .stuck) := id rfl
@[simp] theorem q_fPart0 {ρ : Rho} : fPart none ρ = .ok none := id rfl
def kPart (d : D) : Rs (Option Int) := match d with
  | .int i => .ok (some i)
  | _ => .stuck
@[simp] theorem q_kPart (i : Int) : kPart (.int i) = .ok (some i) := id rfl
@[simp] theorem q_fPart {ρ : Rho} (f : Rho → Rs D) : fPart (some f) ρ = (f ρ).bind kPart := id rfl
def kSlice (d : D) (l h : Option Int) : Rs D := match d with
  | .list ds => .ok (.list (cutD ds l h))
  | _ => .stuck
@[simp] theorem q_kSlice (ds : List D) (l h : Option Int) : kSlice (.list ds) l h = .ok (.list (cutD ds l h)) := id rfl
@[simp] theorem q_fSlice  (f : Rho → Rs D) (lo hi : Rho → Rs (Option Int)) {ρ : _} : fSlice f lo hi ρ = ((f ρ).bind fun d => (lo ρ).bind fun l => (hi ρ).bind fun h => kSlice d l h) := id rfl
@[simp] theorem q_fRaise  (c : Nat) (g : Rho → Rs (List D)) {ρ : _} : fRaise c g ρ = ((g ρ).out ρ fun ds => .exc ⟨c, ds⟩ ρ) := id rfl
@[simp] theorem q_iTpl  (f : Rho → Rs D) {ρ : _} : iTpl f ρ = ((f ρ).bind fun d => match d with
  | .tuple ds => .ok ds
  | _ => .stuck) := id rfl
@[simp] theorem q_fFz  (i : Nat) (g : Rho → Out) {ρ : _} : fFz i g ρ = (g (fz i ρ)) := id rfl
@[simp] theorem q_out1 {α : Type} (a : α) (ρ : Rho) (k : α → Out) : (Rs.ok a).out ρ k = k a := id rfl
@[simp] theorem q_out2 {α : Type} (e : Er) (ρ : Rho) (k : α → Out) : (Rs.exc e : Rs α).out ρ k = .exc e ρ := id rfl
@[simp] theorem q_out3 {α : Type} (ρ : Rho) (k : α → Out) : (Rs.stuck : Rs α).out ρ k = .stuck := id rfl
@[simp] theorem q_res1 (own : Bool) (d : D) : (Out.ret d).res own = .ok d := id rfl
@[simp] theorem q_res2 (own : Bool) (e : Er) (ρ : Rho) : (Out.exc e ρ).res own = .exc e := id rfl
@[simp] theorem q_res3 (ρ : Rho) : (Out.nx ρ).res false = .ok .none := id rfl
@[simp] theorem q_o1 (o : D → Rs D) (d : D) : o1 o [d] = o d := id rfl
@[simp] theorem q_o2 (o : D → D → Rs D) (d e : D) : o2 o [d, e] = o d e := id rfl
@[simp] theorem q_tgL0 (ρ : Rho) : tgL [] [] ρ = .ok ρ := id rfl
@[simp] theorem q_tgL1 (t : Tg) (l : List Tg) (d : D) (ds : List D) (ρ : Rho) : tgL (t :: l) (d :: ds) ρ = (match t d ρ with | .ok ρ' => tgL l ds ρ' | .exc e => .exc e | .stuck => .stuck) := by
  show (t d ρ).bind _ = _
  cases t d ρ <;> rfl
@[simp] theorem q_sAdd (i j : Int) : sAdd (.int i) (.int j) = .ok (.int (i + j)) := id rfl
@[simp] theorem q_sAddI (i j : Int) : sAddI (.int i) (.int j) = .ok (.int (i + j)) := id rfl
@[simp] theorem q_sSub (i j : Int) : sSub (.int i) (.int j) = .ok (.int (i - j)) := id rfl
@[simp] theorem q_sNeg (i : Int) : sNeg (.int i) = .ok (.int (-i)) := id rfl
@[simp] theorem q_sLt (i j : Int) : sLt (.int i) (.int j) = .ok (.bool (decide (i < j))) := id rfl
@[simp] theorem q_sLe (i j : Int) : sLe (.int i) (.int j) = .ok (.bool (decide (i ≤ j))) := id rfl
@[simp] theorem q_sGt (i j : Int) : sGt (.int i) (.int j) = .ok (.bool (decide (j < i))) := id rfl
@[simp] theorem q_sGe (i j : Int) : sGe (.int i) (.int j) = .ok (.bool (decide (j ≤ i))) := id rfl
@[simp] theorem q_sIsN0 : sIsN .none = .ok (.bool true) := id rfl
@[simp] theorem q_sIsN1 (i : Int) : sIsN (.int i) = .ok (.bool false) := id rfl
@[simp] theorem q_sIsN2 (i : Bool) : sIsN (.bool i) = .ok (.bool false) := id rfl
@[simp] theorem q_sIsN3 (i : List D) : sIsN (.list i) = .ok (.bool false) := id rfl
@[simp] theorem q_sIsN4 (i : List D) : sIsN (.tuple i) = .ok (.bool false) := id rfl
@[simp] theorem q_sNotN0 : sNotN .none = .ok (.bool false) := id rfl
@[simp] theorem q_sNotN1 (i : Int) : sNotN (.int i) = .ok (.bool true) := id rfl
@[simp] theorem q_sNotN3 (i : List D) : sNotN (.list i) = .ok (.bool true) := id rfl
@[simp] theorem q_sNotN4 (i : List D) : sNotN (.tuple i) = .ok (.bool true) := id rfl
@[simp] theorem q_sLen0 (i : List D) : sLen (.list i) = .ok (.int (i.length : Int)) := id rfl
@[simp] theorem q_sLen1 (i : List D) : sLen (.tuple i) = .ok (.int (i.length : Int)) := id rfl
@[simp] theorem q_sAbs (i : Int) : sAbs (.int i) = .ok (.int (if i < 0 then -i else i)) := id rfl
@[simp] theorem q_sInt (i : Int) : sInt (.int i) = .ok (.int i) := id rfl
@[simp] theorem q_sMin2 (i j : Int) : sMin2 (.int i) (.int j) = .ok (.int (min i j)) := by
  show Rs.ok (PyData.int (if j < i then j else i)) = _
  congr 2
  split <;> omega
@[simp] theorem q_sMax2 (i j : Int) : sMax2 (.int i) (.int j) = .ok (.int (max i j)) := by
  show Rs.ok (PyData.int (if j > i then j else i)) = _
  congr 2
  split <;> omega
@[simp] theorem q_sList0 (l : List D) : sList (.list l) = .ok (.list l) := id rfl
@[simp] theorem q_sList1 (l : List D) : sList (.tuple l) = .ok (.list l) := id rfl
@[simp] theorem q_sEq (i j : Int) : sEq (.int i) (.int j) = .ok (.bool (decide (i = j))) := id rfl
@[simp] theorem q_sNe (i j : Int) : sNe (.int i) (.int j) = .ok (.bool (!decide (i = j))) := id rfl
theorem q_sMod {i j : Int} (h : 0 < j) : sMod (.int i) (.int j) = .ok (.int (i % j)) := if_pos h
theorem q_sDiv {i j : Int} (h : 0 < j) (h2 : j.natAbs.log2 < 9000) : sDiv (.int i) (.int j) = .ok (.int (i / j)) := if_pos ⟨h, h2⟩
theorem q_sMul {i j : Int} (h : i.natAbs.log2 + j.natAbs.log2 < 1000000) : sMul (.int i) (.int j) = .ok (.int (i * j)) := if_pos h
@[simp] theorem q_isB1 (i : Int) : sIsT "bool" (.int i) = .ok (.bool false) := id rfl
@[simp] theorem q_isB2 (i : Bool) : sIsT "bool" (.bool i) = .ok (.bool true) := id rfl
@[simp] theorem q_isB3 (i : List D) : sIsT "bool" (.list i) = .ok (.bool false) := id rfl
@[simp] theorem q_isB4 (i : List D) : sIsT "bool" (.tuple i) = .ok (.bool false) := id rfl
@[simp] theorem q_isB0 : sIsT "bool" .none = .ok (.bool false) := id rfl
@[simp] theorem q_isI1 (i : Int) : sIsT "int" (.int i) = .ok (.bool true) := id rfl
@[simp] theorem q_isI2 (i : Bool) : sIsT "int" (.bool i) = .ok (.bool true) := id rfl
@[simp] theorem q_isI3 (i : List D) : sIsT "int" (.list i) = .ok (.bool false) := id rfl
@[simp] theorem q_isI4 (i : List D) : sIsT "int" (.tuple i) = .ok (.bool false) := id rfl
@[simp] theorem q_isI0 : sIsT "int" .none = .ok (.bool false) := id rfl
@[simp] theorem q_isL1 (i : Int) : sIsT "list" (.int i) = .ok (.bool false) := id rfl
@[simp] theorem q_isL3 (i : List D) : sIsT "list" (.list i) = .ok (.bool true) := id rfl
@[simp] theorem q_isL4 (i : List D) : sIsT "list" (.tuple i) = .ok (.bool false) := id rfl
@[simp] theorem q_isL0 : sIsT "list" .none = .ok (.bool false) := id rfl
@[simp] theorem q_isT1 (i : Int) : sIsT "tuple" (.int i) = .ok (.bool false) := id rfl
@[simp] theorem q_isT3 (i : List D) : sIsT "tuple" (.list i) = .ok (.bool false) := id rfl
@[simp] theorem q_isT4 (i : List D) : sIsT "tuple" (.tuple i) = .ok (.bool true) := id rfl
@[simp] theorem q_isT0 : sIsT "tuple" .none = .ok (.bool false) := id rfl
theorem sizeLine_big : 1000000 ≤ sizeLine := by unfold sizeLine; decide
@[simp] theorem q_sz (n : Nat) (h : n ≤ 1000 := by decide) : (n ≤ sizeLine) = True := eq_true (Nat.le_trans h (Nat.le_trans (by decide) sizeLine_big))
theorem runB_eq {own : Bool} {m n : Nat} {g : Rho → Out} {ds : List D} (h : ds.length = m) : runB own m n g ds = (g (startR n ds)).res own := if_pos h
theorem log2_lt {i : Int} {k : Nat} (h : i.natAbs < 2 ^ k) (hk : 0 < k) : i.natAbs.log2 < k := by
  by_cases z : i.natAbs = 0
  · rw [z]; simpa using hk
  · exact (Nat.log2_lt z).mpr h
theorem atI_in {ds : List D} {i : Int} {d : D} (h : 0 ≤ i) (e : ds[i.toNat]? = some d) : atI ds i = some d := by
  have hl : i.toNat < ds.length := (List.getElem?_eq_some_iff.mp e).1
  unfold atI ixN
  rw [if_pos h]
  first | rw [if_pos hl] | rw [if_pos (by omega)]
  simpa using e
theorem ix_list {ds : List D} {i : Int} {d : D} (h : 0 ≤ i) (e : ds[i.toNat]? = some d) : sIx (.list ds) (.int i) = .ok d := by
  show (match atI ds i with | some d => Rs.ok d | none => Rs.stuck) = _
  rw [atI_in h e]
theorem ix_tup {ds : List D} {i : Int} {d : D} (h : 0 ≤ i) (e : ds[i.toNat]? = some d) : sIx (.tuple ds) (.int i) = .ok d := by
  show (match atI ds i with | some d => Rs.ok d | none => Rs.stuck) = _
  rw [atI_in h e]
theorem ix_scr {ns : List Int} {i : Int} {n : Int} (h : 0 ≤ i) (e : ns[i.toNat]? = some n) : sIx (scriptD ns) (.int i) = .ok (.int n) := by
  show (match atI (ns.map PyData.int) i with | some d => Rs.ok d | none => Rs.stuck) = _
  rw [atI_in h (by rw [List.getElem?_map, e]; rfl)]
@[simp] theorem len_scr (ns : List Int) : sLen (scriptD ns) = .ok (.int (ns.length : Int)) := by
  show Rs.ok (PyData.int ((ns.map PyData.int).length : Int)) = _
  rw [List.length_map]
theorem loop_inv {tg : Tg} {body : Rho → Out} (I : Nat → Rho → Prop) : ∀ (ds : List D) (k : Nat) (ρ : Rho), I k ρ → (∀ i d ρ, ds[i]? = some d → I (k + i) ρ → ∃ ρ1 ρ2, tg d ρ = .ok ρ1 ∧ (body ρ1 = .nx ρ2 ∨ body ρ1 = .ct ρ2) ∧ I (k + i + 1) ρ2) → ∃ ρ', loopS tg body ds ρ = .nx ρ' ∧ I (k + ds.length) ρ'
  | [], k, ρ, h, _ => ⟨ρ, rfl, h⟩
  | d :: ds, k, ρ, h, st => by
    obtain ⟨ρ1, ρ2, e1, e2, h2⟩ := st 0 d ρ rfl h
    obtain ⟨ρ', e3, h3⟩ := loop_inv I ds (k + 1) ρ2 h2 fun i d ρ e hi => by
      have := st (i + 1) d ρ e (by rw [show k + (i + 1) = k + 1 + i by omega]; exact hi)
      rwa [show k + (i + 1) + 1 = k + 1 + i + 1 by omega] at this
    refine ⟨ρ', ?_, by rw [List.length_cons, show k + (ds.length + 1) = k + 1 + ds.length by omega]; exact h3⟩
    rcases e2 with e2 | e2
    · simp only [loopS, e1, e2, e3]
    · simp only [loopS, e1, e2, e3]
theorem rng_at {j : Int} {i : Nat} {d : D} (h : (rngD 0 j)[i]? = some d) : d = .int (i : Int) ∧ (i : Int) < j := by
  unfold rngD at h
  rw [List.getElem?_map] at h
  cases e : (List.range (j - 0).toNat)[i]? with
  | none => rw [e] at h; cases h
  | some k =>
    rw [e] at h
    have hk := List.getElem?_eq_some_iff.mp e
    obtain ⟨h1, h2⟩ := hk
    rw [List.getElem_range] at h2
    rw [List.length_range] at h1
    subst h2
    cases h
    refine ⟨by show PyData.int (0 + (i : Int)) = _; rw [Int.zero_add], by omega⟩
@[simp] theorem rng_len (j : Int) : (rngD 0 j).length = j.toNat := by unfold rngD; simp
def Sm (k : Nat) (i : Int) : Prop := i.natAbs < 2 ^ k
theorem Sm.mono {a b : Nat} {i : Int} (h : Sm a i) (le : a ≤ b) : Sm b i := Nat.lt_of_lt_of_le h (Nat.pow_le_pow_right (by decide) le)
theorem Sm.log {a : Nat} {i : Int} (h : Sm a i) : i.natAbs.log2 ≤ a := by
  by_cases z : i.natAbs = 0
  · rw [z]; exact Nat.zero_le _
  · exact Nat.le_of_lt ((Nat.log2_lt z).mpr h)
theorem Sm.sub {a : Nat} {i j : Int} (h1 : Sm a i) (h2 : Sm a j) : Sm (a + 1) (i - j) := by
  unfold Sm at *
  rw [Nat.pow_succ]
  omega
theorem mul_ok {a b : Nat} {i j : Int} (h1 : Sm a i) (h2 : Sm b j) (h : a + b < 1000000 := by decide) : sMul (.int i) (.int j) = .ok (.int (i * j)) := q_sMul (by have x := h1.log; have y := h2.log; omega)
theorem rg1_len (n : Nat) (hl : n ≤ 1000) : rg1 (n : Int) = .ok (rngD 0 (n : Int)) := by
  have h1 : -1000000 ≤ (n : Int) := by omega
  have h2 : (n : Int) ≤ 1000000 := by omega
  exact rg1_ok h1 h2
theorem le_size {n : Nat} (h : n ≤ 1000) : n ≤ sizeLine := Nat.le_trans h (Nat.le_trans (by decide) sizeLine_big)
theorem lt_size {n : Nat} (h : n ≤ 1000) : n < sizeLine := Nat.lt_of_le_of_lt h (Nat.lt_of_lt_of_le (by decide) sizeLine_big)
@[simp] theorem q_fz (i : Nat) (ρ : Rho) : fz i ρ = (match ρ[i]? with
  | some (.ow ds) => ρ.set i (.va (.list ds))
  | some (.ot k d) => if k.full = true then ρ.set i (.va d) else ρ
  | _ => ρ) := id rfl
theorem seq_nx {g h : Rho → Out} {ρ ρ' : Rho} (e : g ρ = .nx ρ') : fSeq g h ρ = h ρ' := by rw [q_fSeq, e]
end Ct

namespace Ct
open PySem L2
theorem ixN_in {n : Nat} {i : Int} (h : 0 ≤ i) (h2 : i < n) : ixN n i = some i.toNat := by
  unfold ixN
  rw [if_pos h, if_pos h2]
def BB : Int := 2 ^ 1200
def BC : Int := BB * BB
theorem BB_big : (10 : Int) ^ 300 ≤ BB := by unfold BB; decide +kernel
theorem BB_pos : 1 ≤ BB := by unfold BB; decide +kernel
theorem BC_big : BB ≤ BC := by unfold BC BB; decide +kernel
theorem BB_le (k : Nat) (h : k ≤ 300 := by decide) : (10 : Int) ^ k ≤ BB := Int.le_trans (by exact_mod_cast Nat.pow_le_pow_right (by decide) h) BB_big
theorem BC_sm {x : Int} (h1 : -(1000000000000 * BC) ≤ x) (h2 : x ≤ 1000000000000 * BC) : Sm 2450 x := by
  have e : (1000000000000 * BC).toNat < 2 ^ 2450 := by unfold BC BB; decide +kernel
  unfold Sm
  have p : 0 ≤ BC := by unfold BC BB; decide +kernel
  omega
theorem mulC {x y : Int} (h1 : -(1000000000000 * BC) ≤ x) (h2 : x ≤ 1000000000000 * BC) (h3 : -(1000000000000 * BC) ≤ y) (h4 : y ≤ 1000000000000 * BC) : sMul (.int x) (.int y) = .ok (.int (x * y)) := mul_ok (BC_sm h1 h2) (BC_sm h3 h4)
theorem divC {x y : Int} (h1 : 1 ≤ y) (h2 : y ≤ 1000000000000 * BC) : sDiv (.int x) (.int y) = .ok (.int (x / y)) := q_sDiv (by omega) (Nat.lt_of_le_of_lt (BC_sm (by have : 0 ≤ BC := (by unfold BC BB; decide +kernel); omega) h2).log (by decide))
theorem rg1_map (n : Nat) (hl : n ≤ 1000) : rg1 (n : Int) = .ok ((List.range n).map fun k : Nat => PyData.int (k : Int)) := by
  rw [rg1_len n hl]
  unfold rngD
  simp
@[simp] theorem q_wipe0 (ρ : Rho) : wipeR ρ [] = ρ := id rfl
@[simp] theorem q_wipe1 (ρ : Rho) (v : Nat) (vs : List Nat) : wipeR ρ (v :: vs) = (wipeR ρ vs).set v .un := id rfl
def kRvR (d : D) : Rs (List D) := match d with
  | .int j => (rg1 j).bind fun ds => .ok ds.reverse
  | _ => .stuck
@[simp] theorem q_kRvR (j : Int) : kRvR (.int j) = (rg1 j).bind fun ds => .ok ds.reverse := id rfl
theorem iRvR_body (d : D) : (match d with
  | .int j => if -(2 ^ 62) ≤ j ∧ j < 2 ^ 62 then Rs.ok (rngD 0 j).reverse else .stuck
  | _ => .stuck) = kRvR d := by
  cases d with
  | int j =>
    rw [q_kRvR]
    unfold rg1
    dsimp only
    split
    · rw [Rs.bind_ok]
    · rw [Rs.bind_stuck]
  | _ => rfl
@[simp] theorem q_iRvR (f : Rho → Rs D) {ρ : Rho} : iRvR f ρ = (f ρ).bind kRvR := by
  unfold iRvR
  congr 1
  funext d
  exact iRvR_body d
def kRv (d : D) : Rs (List D) := match d with
  | .list ds => .ok ds.reverse
  | _ => .stuck
@[simp] theorem q_iRv (f : Rho → Rs D) {ρ : Rho} : iRv f ρ = (f ρ).bind kRv := id rfl
@[simp] theorem q_kRv (ds : List D) : kRv (.list ds) = .ok ds.reverse := id rfl
@[simp] theorem q_kLR (ds : List D) : kLR (.list ds) = .ok (.list ds.reverse) := id rfl
@[simp] theorem q_fLstRev (f : Rho → Rs D) {ρ : Rho} : fLstRev f ρ = (f ρ).bind kLR := id rfl
def kTpl (d : D) : Rs (List D) := match d with
  | .tuple ds => .ok ds
  | _ => .stuck
@[simp] theorem q_kTpl (ds : List D) : kTpl (.tuple ds) = .ok ds := id rfl
def kSc (d : D) : Rs D := if scal1 d = true then .ok d else .stuck
@[simp] theorem q_fSc (f : Rho → Rs D) {ρ : Rho} : fSc f ρ = (f ρ).bind kSc := id rfl
@[simp] theorem q_kSc0 : kSc .none = .ok .none := id rfl
@[simp] theorem q_kSc1 (b : Bool) : kSc (.bool b) = .ok (.bool b) := id rfl
@[simp] theorem q_kSc2 (b : Int) : kSc (.int b) = .ok (.int b) := id rfl
@[simp] theorem q_noE1 {α : Type} (a : α) : noE (Rs.ok a) = .ok a := id rfl
@[simp] theorem q_mAppend (ds : List D) (d : D) : mAppend ds [d] = if ds.length < sizeLine then .ok (ds ++ [d]) else .stuck := id rfl
@[simp] theorem q_h0 (sb : Nat → Nat → Option Bool) (er : Er) (ρ : Rho) : handleS sb er ρ [] = .exc er ρ := id rfl
@[simp] theorem q_inR0 (er : Er) (ρ : Rho) : inR none er ρ = ρ := id rfl
@[simp] theorem q_inR1 (i : Nat) (er : Er) (ρ : Rho) : inR (some i) er ρ = ρ.set i (.ex er) := id rfl
@[simp] theorem q_outG (o : Option Nat) (d : D) : outG o (.ret d) = .ret d := id rfl
@[simp] theorem q_fExF (i c j : Nat) {ρ : Rho} : fExF i c j ρ = (match ρ[i]? with
  | some (.ex er) => if er.c = c then (match er.fs[j]? with
    | some d => .ok d
    | none => .stuck) else .stuck
  | _ => .stuck) := id rfl
@[simp] theorem q_fIsE (i c : Nat) (b : Bool) {ρ : Rho} : fIsE i c b ρ = (match ρ[i]? with
  | some (.ex er) => if er.c = c then .ok (.bool b) else .stuck
  | _ => .stuck) := id rfl
theorem rng_map2 (a n : Nat) (h : a ≤ n) : rngD (a : Int) (n : Int) = (List.range (n - a)).map fun k : Nat => PyData.int ((a + k : Nat) : Int) := by
  unfold rngD
  have : ((n : Int) - (a : Int)).toNat = n - a := by omega
  rw [this]
  simp
theorem rg2_len (a n : Nat) (h : a ≤ 100000) (hn : n ≤ 100000) : rg2 (a : Int) (n : Int) = .ok (rngD (a : Int) (n : Int)) := rg2_ok (by omega) (by omega) (by omega) (by omega)
@[simp] theorem rg1_0 : rg1 0 = .ok [] := rg1_ok (by decide) (by decide)
@[simp] theorem rg1_2 : rg1 2 = .ok [.int 0, .int 1] := rg1_ok (by decide) (by decide)
@[simp] theorem rg1_3 : rg1 3 = .ok [.int 0, .int 1, .int 2] := rg1_ok (by decide) (by decide)
@[simp] theorem rg1_4 : rg1 4 = .ok [.int 0, .int 1, .int 2, .int 3] := rg1_ok (by decide) (by decide)
@[simp] theorem rg1_5 : rg1 5 = .ok [.int 0, .int 1, .int 2, .int 3, .int 4] := rg1_ok (by decide) (by decide)
@[simp] theorem lst_0 (a : D) (l : List D) : sIx (.list (a :: l)) (.int 0) = .ok a := ix_list (by decide) rfl
@[simp] theorem lst_1 (a b : D) (l : List D) : sIx (.list (a :: b :: l)) (.int 1) = .ok b := ix_list (by decide) rfl
@[simp] theorem lst_2 (a b c : D) (l : List D) : sIx (.list (a :: b :: c :: l)) (.int 2) = .ok c := ix_list (by decide) rfl
@[simp] theorem lst_3 (a b c d : D) (l : List D) : sIx (.list (a :: b :: c :: d :: l)) (.int 3) = .ok d := ix_list (by decide) rfl
@[simp] theorem lst_4 (a b c d e : D) (l : List D) : sIx (.list (a :: b :: c :: d :: e :: l)) (.int 4) = .ok e := ix_list (by decide) rfl
@[simp] theorem tup_0 (a : D) (l : List D) : sIx (.tuple (a :: l)) (.int 0) = .ok a := ix_tup (by decide) rfl
@[simp] theorem tup_1 (a b : D) (l : List D) : sIx (.tuple (a :: b :: l)) (.int 1) = .ok b := ix_tup (by decide) rfl
@[simp] theorem tup_2 (a b c : D) (l : List D) : sIx (.tuple (a :: b :: c :: l)) (.int 2) = .ok c := ix_tup (by decide) rfl
@[simp] theorem tup_3 (a b c d : D) (l : List D) : sIx (.tuple (a :: b :: c :: d :: l)) (.int 3) = .ok d := ix_tup (by decide) rfl
@[simp] theorem tup_4 (a b c d e : D) (l : List D) : sIx (.tuple (a :: b :: c :: d :: e :: l)) (.int 4) = .ok e := ix_tup (by decide) rfl
theorem ix_map {α : Type} {p : α → D} {l : List α} {k : Nat} {x : α} (h : l[k]? = some x) : sIx (.list (l.map p)) (.int (k : Int)) = .ok (p x) := ix_list (by omega) (by simp [h])
theorem ix_mapI {α : Type} {p : α → D} {l : List α} {k : Int} {x : α} (h0 : 0 ≤ k) (h : l[k.toNat]? = some x) : sIx (.list (l.map p)) (.int k) = .ok (p x) := ix_list h0 (by simp [h])
theorem ix_neg {ds : List D} {k : Nat} {d : D} (h : 1 ≤ k) (hk : k ≤ ds.length) (e : ds[ds.length - k]? = some d) : sIx (.list ds) (.int (-(k : Int))) = .ok d := by
  show (match atI ds (-(k : Int)) with | some d => Rs.ok d | none => Rs.stuck) = _
  have : ixN ds.length (-(k : Int)) = some (ds.length - k) := by
    unfold ixN
    rw [if_neg (by omega)]
    have : ¬ (-(k : Int) + (ds.length : Int) < 0) := by omega
    first
      | (rw [if_pos (by omega)]; congr 1; omega)
      | (rw [if_neg (by omega)]; congr 1; omega)
  unfold atI
  rw [this]
  simp [e]
end Ct

namespace Ct
open PySem L2
@[simp] theorem q_at1 (s : Sh) (n : Nat) : (Sh.r s).at' n = s := id rfl
@[simp] theorem q_at2 (s k : Sh) : (Sh.c s k).at' 0 = s := id rfl
@[simp] theorem q_at3 (s k : Sh) : (Sh.c s k).at' 1 = k.at' 0 := id rfl
@[simp] theorem q_at4 (s k : Sh) : (Sh.c s k).at' 2 = k.at' 1 := id rfl
@[simp] theorem q_put1 (s t : Sh) : (Sh.r s).put 0 t = .c t (.r s) := id rfl
@[simp] theorem q_put2 (s t : Sh) : (Sh.r s).put 1 t = .c s ((Sh.r s).put 0 t) := id rfl
@[simp] theorem q_put3 (s k t : Sh) : (Sh.c s k).put 0 t = .c t k := id rfl
@[simp] theorem q_put4 (s k t : Sh) : (Sh.c s k).put 1 t = .c s (k.put 0 t) := id rfl
@[simp] theorem q_put5 (s k t : Sh) : (Sh.c s k).put 2 t = .c s (k.put 1 t) := id rfl
@[simp] theorem q_nd1 (s : Sh) : (Sh.r s).node = true := id rfl
@[simp] theorem q_nd2 (s k : Sh) : (Sh.c s k).node = k.node := id rfl
@[simp] theorem q_fu1 (s : Sh) : (Sh.r s).full = s.full := id rfl
@[simp] theorem q_fu2 (s k : Sh) : (Sh.c s k).full = (s.full && k.full) := id rfl
@[simp] theorem q_fu3 : Sh.g.full = true := id rfl
@[simp] theorem q_fu4 : Sh.x.full = false := id rfl
@[simp] theorem q_slg (d : D) : slW .g d = .va d := id rfl
@[simp] theorem q_slx (d : D) : slW .x d = .un := id rfl
@[simp] theorem q_sl1 (s : Sh) : slW (.r s) .none = .va .none := id rfl
@[simp] theorem q_sl2 (s : Sh) (b : Bool) : slW (.r s) (.bool b) = .va (.bool b) := id rfl
@[simp] theorem q_sl3 (s : Sh) (i : Int) : slW (.r s) (.int i) = .va (.int i) := id rfl
@[simp] theorem q_sl4 (ds : List D) : slW (.r .g) (.list ds) = .ow ds := id rfl
@[simp] theorem q_sl5 (s : Sh) (ds : List D) : slW (.r (.r s)) (.list ds) = .ot (.r (.r s)) (.list ds) := id rfl
@[simp] theorem q_sl5t (s : Sh) (ds : List D) : slW (.r s) (.tuple ds) = .ot (.r s) (.tuple ds) := by cases s <;> rfl
@[simp] theorem q_sl6 (s k : Sh) : slW (.c s k) .none = .va .none := id rfl
@[simp] theorem q_sl7 (s k : Sh) (b : Bool) : slW (.c s k) (.bool b) = .va (.bool b) := id rfl
@[simp] theorem q_sl8 (s k : Sh) (i : Int) : slW (.c s k) (.int i) = .va (.int i) := id rfl
@[simp] theorem q_sl9 (s k : Sh) (ds : List D) : slW (.c s k) (.tuple ds) = .ot (.c s k) (.tuple ds) := id rfl
@[simp] theorem q_sl10 (s k : Sh) (ds : List D) : slW (.c s k) (.list ds) = .ot (.c s k) (.list ds) := id rfl
@[simp] theorem q_fAsgW (i : Nat) (k : Sh) (f : Rho → Rs D) {ρ : Rho} : fAsgW i k f ρ = (f ρ).out ρ fun d => .nx (ρ.set i (slW k d)) := id rfl
@[simp] theorem q_fRetW (i : Nat) (k : Sh) {ρ : Rho} : fRetW i k ρ = (match ρ[i]? with
  | some (.ow ds) => if k = .r .g then .ret (.list ds) else .stuck
  | some (.ot k' d) => if k = k' then .ret d else .stuck
  | some (.va d) => if scal1 d = true then .ret d else .stuck
  | _ => .stuck) := id rfl
@[simp] theorem q_fT (i : Nat) {ρ : Rho} : fT i ρ = (match ρ[i]? with
  | some (.va d) => .ok d
  | some (.ow ds) => .ok (.list ds)
  | some (.ot k d) => if k.full = true then .ok d else .stuck
  | _ => .stuck) := id rfl
@[simp] theorem q_fAppW (i : Nat) (s : Sh) (f : Rho → Rs D) {ρ : Rho} : fAppW i s f ρ = (match ρ[i]? with
  | some (.ot k (.list ds)) => if k.node = true ∧ k.at' ds.length = s ∧ ds.length < sizeLine then (f ρ).out ρ fun d => .nx (ρ.set i (.ot k (.list (ds ++ [d])))) else .stuck
  | _ => .stuck) := id rfl
theorem q_fSetP (i : Nat) (fv fa fb : Rho → Rs D) {ρ : Rho} : fSetP i fv fa fb ρ = ((fv ρ).out ρ fun v => match ρ[i]? with
  | some (.ot k (.list ds)) => (fa ρ).out ρ fun a => match a with
    | .int n => match ixN ds.length n with
      | some m => match ds[m]? with
        | some (.list es) => if k.node = true ∧ k.at' m = .r .g then (fb ρ).out ρ fun b => match b with
          | .int n2 => match ixN es.length n2 with
            | some m2 => .nx (ρ.set i (.ot k (.list (ds.set m (.list (es.set m2 v))))))
            | none => .stuck
          | _ => .stuck
          else .stuck
        | _ => .stuck
      | none => .stuck
    | _ => .stuck
  | _ => .stuck) := id rfl
@[simp] theorem q_fUnp (i j1 j2 : Nat) {ρ : Rho} : fUnp i j1 j2 ρ = (match ρ[i]? with
  | some (.ot k (.tuple [d1, d2])) => if k.node = true ∧ (k.put 0 .x).node = true ∧ j1 ≠ i ∧ j2 ≠ i then
      .nx ((((ρ.set i (.ot (k.put 0 .x) (.tuple [d1, d2]))).set j1 (slW (k.at' 0) d1)).set i (.ot ((k.put 0 .x).put 1 .x) (.tuple [d1, d2]))).set j2 (slW ((k.put 0 .x).at' 1) d2)) else .stuck
  | _ => .stuck) := id rfl
def dictD (m : List (Int × D)) : D := .dict (m.map fun p => (.int p.1, p.2))
def lookI (m : List (Int × D)) (n : Int) : Option D := (m.find? fun p => decide (p.1 = n)).map (·.2)
def putI (m : List (Int × D)) (n : Int) (d : D) : List (Int × D) := if (m.any fun p => decide (p.1 = n)) = true then m.map (fun p => if p.1 = n then (p.1, d) else p) else m ++ [(n, d)]
theorem getK_map (n : Int) : ∀ m : List (Int × D), getK (m.map fun p => (PyData.int p.1, p.2)) n = lookI m n
  | [] => rfl
  | p :: m => by
    have ih := getK_map n m
    unfold getK lookI at *
    rw [List.map_cons, List.find?_cons, List.find?_cons]
    show Option.map _ (match decide (p.1 = n) with | true => _ | false => _) = Option.map _ (match decide (p.1 = n) with | true => _ | false => _)
    by_cases h : p.1 = n
    · rw [decide_eq_true h]; rfl
    · rw [decide_eq_false h]; exact ih
theorem putD_map (n : Int) (d : D) (m : List (Int × D)) : putD (m.map fun p => (PyData.int p.1, p.2)) n d = (putI m n d).map fun p => (PyData.int p.1, p.2) := by
  have e : ((m.map fun p => (PyData.int p.1, p.2)).any fun p => isKey n p.1) = m.any fun p => decide (p.1 = n) := by
    rw [List.any_map]
    rfl
  unfold putD putI
  rw [e]
  split
  · rw [List.map_map, List.map_map]
    apply List.map_congr_left
    intro p _
    show (if decide (p.1 = n) = true then (PyData.int p.1, d) else (PyData.int p.1, p.2)) = _
    by_cases h : p.1 = n
    · simp [h]
    · simp [h]
  · rw [List.map_append]
    rfl
theorem isK_map (m : List (Int × D)) : (m.map fun p => (PyData.int p.1, p.2)).all (fun p => isInt1 p.1) = true := by
  rw [List.all_map]
  simp [isInt1]
def kD (d : D) : Rs D := match d with
  | .dict es => if es.all (fun p => isInt1 p.1) = true then .ok (.dict es) else .stuck
  | _ => .stuck
@[simp] theorem q_kD (m : List (Int × D)) : kD (dictD m) = .ok (dictD m) := by
  show (if _ then _ else _) = _
  rw [if_pos (isK_map m)]
  rfl
@[simp] theorem q_fD (f : Rho → Rs D) {ρ : Rho} : fD f ρ = (f ρ).bind kD := id rfl
@[simp] theorem q_fOd (i : Nat) {ρ : Rho} : fOd i ρ = (match ρ[i]? with
  | some (.od es) => .ok (.dict es)
  | _ => .stuck) := id rfl
theorem q_dget (m : List (Int × D)) (n : Int) : sDGet (dictD m) (.int n) = (match lookI m n with
  | some d => .ok d
  | none => .stuck) := by
  show (match getK _ n with | some d => Rs.ok d | none => .stuck) = _
  rw [getK_map]
@[simp] theorem q_din (m : List (Int × D)) (n : Int) : sDIn (.int n) (dictD m) = .ok (.bool (lookI m n).isSome) := by
  show Rs.ok (PyData.bool (getK _ n).isSome) = _
  rw [getK_map]
@[simp] theorem q_dnin (m : List (Int × D)) (n : Int) : sDNotIn (.int n) (dictD m) = .ok (.bool (!(lookI m n).isSome)) := by
  show Rs.ok (PyData.bool (!(getK _ n).isSome)) = _
  rw [getK_map]
def kM (i : Nat) (ρ : Rho) (d : D) : Out := match d with
  | .dict es => .nx (ρ.set i (.od es))
  | _ => .stuck
@[simp] theorem q_kM (i : Nat) (ρ : Rho) (es : List (D × D)) : kM i ρ (.dict es) = .nx (ρ.set i (.od es)) := id rfl
@[simp] theorem q_fAsgM (i : Nat) (f : Rho → Rs D) {ρ : Rho} : fAsgM i f ρ = (f ρ).out ρ (kM i ρ) := id rfl
theorem q_fDPut (i : Nat) (fv fk : Rho → Rs D) {ρ : Rho} : fDPut i fv fk ρ = ((fv ρ).out ρ fun v => match ρ[i]? with
  | some (.od es) => (fk ρ).out ρ fun k => match k with
    | .int n => if es.length < sizeLine then .nx (ρ.set i (.od (putD es n v))) else .stuck
    | _ => .stuck
  | _ => .stuck) := id rfl
@[simp] theorem q_fRetM (i : Nat) {ρ : Rho} : fRetM i ρ = (match ρ[i]? with
  | some (.od es) => .ret (.dict es)
  | _ => .stuck) := id rfl
def kDisp (k v : D) : Rs D := match k with
  | .int n => .ok (.dict [(.int n, v)])
  | _ => .stuck
@[simp] theorem q_kDisp (n : Int) (v : D) : kDisp (.int n) v = .ok (.dict [(.int n, v)]) := id rfl
@[simp] theorem q_fDisp1 (fk fv : Rho → Rs D) {ρ : Rho} : fDisp1 fk fv ρ = (fk ρ).bind fun k => (fv ρ).bind fun v => kDisp k v := id rfl
def kWalk (g : List (D × D) → List D) (d : D) : Rs (List D) := match d with
  | .dict es => .ok (g es)
  | _ => .stuck
@[simp] theorem q_kWalk (g : List (D × D) → List D) (m : List (Int × D)) : kWalk g (dictD m) = .ok (g (m.map fun p => (.int p.1, p.2))) := id rfl
@[simp] theorem q_dictOf (f : Rho → Rs D) (g : List (D × D) → List D) {ρ : Rho} : dictOf f g ρ = (fD f ρ).bind (kWalk g) := id rfl
@[simp] theorem q_iKeys (f : Rho → Rs D) {ρ : Rho} : iKeys' f ρ = (fD f ρ).bind (kWalk fun es => es.map (·.1)) := id rfl
@[simp] theorem q_iVals (f : Rho → Rs D) {ρ : Rho} : iVals' f ρ = (fD f ρ).bind (kWalk fun es => es.map (·.2)) := id rfl
@[simp] theorem q_iItems (f : Rho → Rs D) {ρ : Rho} : iItems' f ρ = (fD f ρ).bind (kWalk fun es => es.map fun p => .tuple [p.1, p.2]) := id rfl
def kSortK (d : D) : Rs D := match d with
  | .dict es => match keysI es with
    | some ks => .ok (.list ((sortI ks).map PyData.int))
    | none => .stuck
  | _ => .stuck
theorem keysI_map : ∀ m : List (Int × D), keysI (m.map fun p => (PyData.int p.1, p.2)) = some (m.map (·.1))
  | [] => rfl
  | p :: m => by
    show (keysI (m.map fun p => (PyData.int p.1, p.2))).map (p.1 :: ·) = _
    rw [keysI_map m]
    rfl
@[simp] theorem q_kSortK (m : List (Int × D)) : kSortK (dictD m) = .ok (.list ((sortI (m.map (·.1))).map PyData.int)) := by
  show (match keysI _ with | some ks => Rs.ok (PyData.list ((sortI ks).map PyData.int)) | none => .stuck) = _
  rw [keysI_map]
@[simp] theorem q_fSortK (f : Rho → Rs D) {ρ : Rho} : fSortK f ρ = (f ρ).bind kSortK := id rfl
def kMinV (d : D) : Rs D := match d with
  | .dict es => match llD (es.map (·.2)) with
    | some (n :: ls) => .ok (.list ((minLs (n :: ls)).map PyData.int))
    | _ => .stuck
  | _ => .stuck
@[simp] theorem q_fMinV (f : Rho → Rs D) {ρ : Rho} : fMinV f ρ = (f ρ).bind kMinV := id rfl
@[simp] theorem q_sAny (bs : List Bool) : sAny (.list (bs.map PyData.bool)) = .ok (.bool (bs.any id)) := by
  show (match boolsD _ with | some bs => Rs.ok (PyData.bool (bs.any id)) | none => .stuck) = _
  rw [boolsD_map]
@[simp] theorem q_sLtL (a b : List Int) : sLtL (.list (a.map PyData.int)) (.list (b.map PyData.int)) = .ok (.bool (_root_.HT.lexLt a b)) := by
  show (match intsD _, intsD _ with | some ns, some ms => Rs.ok (PyData.bool (_root_.HT.lexLt ns ms)) | _, _ => .stuck) = _
  rw [intsD_map, intsD_map]
@[simp] theorem q_sMinL (n : List Int) (ls : List (List Int)) : sMinL (.list ((n :: ls).map fun ns => PyData.list (ns.map PyData.int))) = .ok (.list ((minLs (n :: ls)).map PyData.int)) := by
  show (match llD _ with | some (n :: ls) => Rs.ok (PyData.list ((minLs (n :: ls)).map PyData.int)) | _ => .stuck) = _
  rw [llD_map]
@[simp] theorem q_fCh (o o' : D → D → Rs D) (fa fb fc : Rho → Rs D) {ρ : Rho} : fCh o o' fa fb fc ρ = ((fa ρ).bind fun x => (fb ρ).bind fun y => (o x y).bind fun z => match z with
  | .bool true => (fc ρ).bind fun u => o' y u
  | .bool false => .ok (.bool false)
  | _ => .stuck) := id rfl
@[simp] theorem q_fCallKB (f : List D → Rs D) (g : Rho → Rs (List D)) (h : Rho → Rs D) {ρ : Rho} : fCallKB f g h ρ = ((g ρ).bind fun ds => (h ρ).bind fun d => noE (f (ds ++ [d]))) := id rfl
@[simp] theorem q_fRet2 (i : Nat) (f : Rho → Rs D) {ρ : Rho} : fRet2 i f ρ = ((f ρ).out ρ fun d => match ρ[i]? with
  | some (.ow ds) => .ret (.tuple [d, .list ds])
  | _ => .stuck) := id rfl
theorem dcomp_map {α : Type} {p : α → D} {tg : Tg} {ek e : Rho → Rs D} {ρ : Rho} (φ : α → Int × D) : ∀ (l : List α), (∀ x ∈ l, ∃ ρ1, tg (p x) ρ = .ok ρ1 ∧ ek ρ1 = .ok (.int (φ x).1) ∧ e ρ1 = .ok (φ x).2) → compD tg fYes ek e ρ (l.map p) = .ok (l.map φ)
  | [], _ => rfl
  | x :: l, h => by
    obtain ⟨ρ1, e1, e2, e3⟩ := h x List.mem_cons_self
    have := dcomp_map φ l fun y hy => h y (List.mem_cons_of_mem _ hy)
    simp only [List.map_cons, compD, e1, fYes, e2, e3, this, Rs.bind_ok]
theorem putAll_map : ∀ (ps m : List (Int × D)), putAll (m.map fun p => (PyData.int p.1, p.2)) ps = ((ps.foldl (fun a p => putI a p.1 p.2) m).map fun p => (PyData.int p.1, p.2))
  | [], m => rfl
  | p :: ps, m => by
    show putAll (putD _ p.1 p.2) ps = _
    rw [putD_map, putAll_map ps]
    rfl
theorem dcomp_ok {vs : List Nat} {f : Rho → Rs (List D)} {tg : Tg} {ek e : Rho → Rs D} {ρ : Rho} {ds : List D} {r : List (Int × D)} (h1 : f ρ = .ok ds) (h2 : ds.length ≤ 1000) (h3 : compD tg fYes ek e (wipeR ρ vs) ds = .ok r) : fDComp vs f tg fYes ek e ρ = .ok (dictD (r.foldl (fun a p => putI a p.1 p.2) [])) := by
  unfold fDComp
  rw [h1, Rs.bind_ok, if_pos (le_size h2), h3]
  show Rs.ok (PyData.dict (putAll [] r)) = _
  rw [show ([] : List (D × D)) = ([] : List (Int × D)).map fun p => (PyData.int p.1, p.2) from rfl, putAll_map]
  rfl
@[simp] theorem q_tgTl (l : List Tg) (d : D) (ρ : Rho) : tgTl l d ρ = (match d with
  | .list ds => tgL l ds ρ
  | _ => .stuck) := id rfl
def kNoL (ds0 : List D) (d : D) : Rs D := if noL ds0 d = true then .ok d else .stuck
def kAllSc (d : D) : Rs D := if allSc d = true then .ok d else .stuck
def kFl (d : D) : Rs D := if scal1 d = true ∨ allSc d = true then .ok d else .stuck
@[simp] theorem q_fCallN (i : Nat) (f : List D → Rs D) (g : Rho → Rs (List D)) {ρ : Rho} : fCallN i f g ρ = (match ρ[i]? with
  | some (.ow ds0) => (g ρ).bind fun as => (noE (f as)).bind (kNoL ds0)
  | _ => .stuck) := id rfl
@[simp] theorem q_fCallNO (i : Nat) (f : List D → Rs D) (g : Rho → Rs (List D)) {ρ : Rho} : fCallNO i f g ρ = (match ρ[i]? with
  | some (.ow _) => (g ρ).bind fun as => (noE (f as)).bind kAllSc
  | _ => .stuck) := id rfl
@[simp] theorem q_fFl (f : Rho → Rs D) {ρ : Rho} : fFl f ρ = (f ρ).bind kFl := id rfl
theorem kNoL_ok {ds0 : List D} {d : D} (h : noL ds0 d = true) : kNoL ds0 d = .ok d := if_pos h
theorem ints_sc (ns : List Int) : (ns.map PyData.int).all scal1 = true := by
  rw [List.all_map]
  simp [scal1]
@[simp] theorem kAllSc_ints (ns : List Int) : kAllSc (.list (ns.map PyData.int)) = .ok (.list (ns.map PyData.int)) := if_pos (ints_sc ns)
@[simp] theorem kFl_ints (ns : List Int) : kFl (.list (ns.map PyData.int)) = .ok (.list (ns.map PyData.int)) := if_pos (.inr (ints_sc ns))
theorem noL_dict {ds0 : List D} {m : List (Int × D)} (h0 : (ds0.any fun d => !scal1 d) = true) (h : ∀ p ∈ m, ∃ ns : List Int, p.2 = .list (ns.map PyData.int)) : kNoL ds0 (dictD m) = .ok (dictD m) := kNoL_ok (by
  show ((m.map fun p => (PyData.int p.1, p.2)).all (fun p => isInt1 p.1) && (m.map fun p => (PyData.int p.1, p.2)).all fun p => flL ds0 p.2) = true
  rw [isK_map, Bool.true_and, List.all_map, List.all_eq_true]
  intro p hp
  obtain ⟨ns, e⟩ := h p hp
  show flL ds0 p.2 = true
  rw [e]
  show ((ns.map PyData.int).all scal1 && _) = true
  rw [ints_sc, h0]
  rfl)
end Ct

namespace Lw
abbrev D := Ct.D
open PySem PySem.Spec PyProof.Rows L2 Ct
def b_check_periods_1 : Rho → Out := (fIf (fOr (toB (fBin sLt (fV 3) (fC (.int 0)))) (fOr (toB (fBin sLt (fV 4) (fC (.int 0)))) (toB (fBin sLt (fV 5) (fC (.int 1))))))
  (fRaise 0 (aCons (fV 2) aNil))
  fSkip)
def b_check_periods_2 : Rho → Out := (fIf (toB (fBin sGt (fV 4) (fV 1)))
  (fRaise 1 (aCons (fV 2) aNil))
  fSkip)
def g_check_periods : Rho → Out := (fSeq (fFor (iEnu (fV 0)) (tgT [(tgN 2), (tgT [(tgN 3), (tgN 4), (tgN 5)])])
  b_check_periods_1)
  (fIf (toB (fUn sNotN (fV 1)))
  (fFor (iEnu (fV 0)) (tgT [(tgN 2), (tgT [(tgN 3), (tgN 4), (tgN 5)])])
  b_check_periods_2)
  fSkip))
def f_check_periods : List D → Rs D := runB false 2 6 g_check_periods
theorem u_check_periods (y0 y1 : D) : f_check_periods [y0, y1] = (g_check_periods [.va y0, .va y1, .un, .un, .un, .un]).res false := runB_eq rfl
def g_law_cell : Rho → Out := (fSeq (fIf (toB (fBin sLt (fV 1) (fCl (o1 sLen) (aCons (fV 0) aNil))))
  (fRet (fCl (o1 sAbs) (aCons (fBin sIx (fV 0) (fV 1)) aNil)))
  fSkip)
  (fRet (fC (.int 0))))
def f_law_cell : List D → Rs D := runB false 2 2 g_law_cell
theorem u_law_cell (y0 y1 : D) : f_law_cell [y0, y1] = (g_law_cell [.va y0, .va y1]).res false := runB_eq rfl
def g_law_period : Rho → Out := (fSeq (fIf (toB (fBin sEq (fV 1) (fC (.int 5))))
  (fSeq (fAsg 2 (fBin sMod (fCl (o1 sInt) (aCons (fV 0) aNil)) (fC (.int (10 ^ 60)))))
  (fSeq (fAsg 3 (fBin sMod (fCl (o1 sInt) (aCons (fBin sAdd (fBin sDiv (fV 0) (fC (.int (10 ^ 30)))) (fBin sMul (fV 2) (fV 2))) aNil)) (fC (.int (10 ^ 60)))))
  (fSeq (fAsg 4 (fBin sAdd (fC (.int 1)) (fBin sMod (fCl (o1 sInt) (aCons (fBin sAdd (fBin sDiv (fBin sDiv (fV 0) (fC (.int (10 ^ 45)))) (fC (.int (10 ^ 45)))) (fBin sMul (fC (.int 7919)) (fV 2))) aNil)) (fC (.int (10 ^ 30))))))
  (fRet (fTup (aCons (fBin sMod (fV 2) (fC (.int (10 ^ 30)))) (aCons (fV 3) (aCons (fV 4) aNil))))))))
  fSkip)
  (fSeq (fAsg 5 (fLst (aCons (fTup (aCons (fC (.int 4)) (aCons (fC (.int 8)) (aCons (fC (.int 2)) aNil)))) (aCons (fTup (aCons (fC (.int 10)) (aCons (fC (.int 40)) (aCons (fC (.int 4)) aNil)))) (aCons (fTup (aCons (fC (.int 61)) (aCons (fC (.int 301)) (aCons (fC (.int 9)) aNil)))) (aCons (fTup (aCons (fC (.int (10 ^ 6))) (aCons (fC (.int (10 ^ 9))) (aCons (fC (.int 1000)) aNil)))) (aCons (fTup (aCons (fC (.int 7)) (aCons (fC (.int 30)) (aCons (fC (.int 3)) aNil)))) aNil)))))))
  (fSeq (fAsgT (tgT [(tgN 6), (tgN 7), (tgN 8)]) (fBin sIx (fV 5) (fV 1)))
  (fSeq (fAsg 9 (fBin sMod (fCl (o1 sInt) (aCons (fV 0) aNil)) (fV 6)))
  (fSeq (fAsg 3 (fBin sMod (fCl (o1 sInt) (aCons (fBin sDiv (fV 0) (fV 6)) aNil)) (fV 7)))
  (fSeq (fAsg 4 (fBin sAdd (fC (.int 1)) (fBin sMod (fCl (o1 sInt) (aCons (fBin sDiv (fV 0) (fBin sMul (fV 6) (fV 7))) aNil)) (fV 8))))
  (fSeq (fAsg 10 (fBin sMod (fCl (o1 sInt) (aCons (fBin sDiv (fV 0) (fBin sMul (fBin sMul (fV 6) (fV 7)) (fV 8))) aNil)) (fC (.int 6))))
  (fSeq (fIf (toB (fBin sEq (fV 10) (fC (.int 0))))
  (fAsg 9 (fC (.int 0)))
  fSkip)
  (fSeq (fIf (toB (fBin sEq (fV 10) (fC (.int 1))))
  (fAsg 3 (fC (.int 0)))
  fSkip)
  (fSeq (fIf (toB (fBin sEq (fV 1) (fC (.int 4))))
  (fRet (fTup (aCons (fBin sMul (fV 9) (fC (.int (10 ^ 12)))) (aCons (fBin sMul (fV 3) (fC (.int (10 ^ 21)))) (aCons (fBin sMul (fV 4) (fC (.int (10 ^ 9)))) aNil)))))
  fSkip)
  (fRet (fTup (aCons (fV 9) (aCons (fV 3) (aCons (fV 4) aNil)))))))))))))))
def f_law_period : List D → Rs D := runB false 2 11 g_law_period
theorem u_law_period (y0 y1 : D) : f_law_period [y0, y1] = (g_law_period [.va y0, .va y1, .un, .un, .un, .un, .un, .un, .un, .un, .un]).res false := runB_eq rfl
def g_law_number : Rho → Out := (fSeq (fAsg 2 (fCall f_law_cell (aCons (fV 0) (aCons (fV 1) aNil))))
  (fSeq (fIf (toB (fBin sGe (fV 2) (fC (.int (10 ^ 18)))))
  (fRet (fV 2))
  fSkip)
  (fSeq (fAsg 3 (fBin sMod (fCl (o1 sInt) (aCons (fBin sAdd (fBin sAdd (fBin sMul (fV 2) (fC (.int 48271))) (fBin sMul (fC (.int 7)) (fV 1))) (fC (.int 11))) aNil)) (fC (.int 2147483647))))
  (fSeq (fAsg 4 (fBin sMod (fCl (o1 sInt) (aCons (fBin sAdd (fBin sAdd (fBin sMul (fV 3) (fC (.int 69621))) (fBin sMul (fC (.int 13)) (fV 1))) (fC (.int 5))) aNil)) (fC (.int 2147483629))))
  (fRet (fBin sAdd (fV 3) (fBin sMul (fC (.int 2147483647)) (fV 4))))))))
def f_law_number : List D → Rs D := runB false 2 5 g_law_number
theorem u_law_number (y0 y1 : D) : f_law_number [y0, y1] = (g_law_number [.va y0, .va y1, .un, .un, .un]).res false := runB_eq rfl
def g_law_shape : Rho → Out := (fSeq (fAsg 2 (fCall f_law_cell (aCons (fV 0) (aCons (fC (.int 0)) aNil))))
  (fSeq (fAsg 3 (fBin sDiv (fV 2) (fC (.int 6))))
  (fSeq (fIf (fAnd (toB (fBin sEq (fBin sMod (fCl (o1 sInt) (aCons (fV 3) aNil)) (fC (.int 4))) (fC (.int 3)))) (toB (fBin sGt (fCl (o1 sLen) (aCons (fV 0) aNil)) (fC (.int 8)))))
  (fSeq (fAsg 4 (fCl (o2 sMin2) (aCons (fBin sSub (fCl (o1 sLen) (aCons (fV 0) aNil)) (fC (.int 4))) (aCons (fV 1) aNil))))
  (fSeq (fAsg 5 (fBin sAdd (fC (.int 1)) (fBin sMod (fCl (o1 sInt) (aCons (fBin sDiv (fV 3) (fC (.int 4))) aNil)) (fV 4))))
  (fRet (fTup (aCons (fBin sMod (fCl (o1 sInt) (aCons (fV 2) aNil)) (fC (.int 6))) (aCons (fV 5) (aCons (fBin sSub (fV 4) (fV 5)) aNil)))))))
  fSkip)
  (fRet (fTup (aCons (fBin sMod (fCl (o1 sInt) (aCons (fV 2) aNil)) (fC (.int 6))) (aCons (fBin sAdd (fC (.int 1)) (fBin sMod (fCl (o1 sInt) (aCons (fBin sDiv (fV 3) (fC (.int 4))) aNil)) (fC (.int 6)))) (aCons (fBin sMod (fCl (o1 sInt) (aCons (fBin sDiv (fV 3) (fC (.int 24))) aNil)) (fC (.int 4))) aNil))))))))
def f_law_shape : List D → Rs D := runB false 2 6 g_law_shape
theorem u_law_shape (y0 y1 : D) : f_law_shape [y0, y1] = (g_law_shape [.va y0, .va y1, .un, .un, .un, .un]).res false := runB_eq rfl
def c_law_periods_1 : Rho → Rs D := (fComp [4] (iRg1 (aCons (fV 2) aNil)) (tgN 4) fYes (fCall f_law_period (aCons (fCall f_law_number (aCons (fV 0) (aCons (fBin sAdd (fV 1) (fV 4)) aNil))) (aCons (fV 3) aNil))))
def g_law_periods : Rho → Out := (fRet c_law_periods_1)
def f_law_periods : List D → Rs D := runB true 4 5 g_law_periods
theorem u_law_periods (y0 y1 y2 y3 : D) : f_law_periods [y0, y1, y2, y3] = (g_law_periods [.va y0, .va y1, .va y2, .va y3, .un]).res true := runB_eq rfl
def g_law_same (rec : List D → Rs D) : Rho → Out := (fSeq (fIf (toB (fUn sIsN (fV 1)))
  (fRet (fUn sIsN (fV 0)))
  fSkip)
  (fSeq (fIf (toB (fUn (sIsT "bool") (fV 1)))
  (fRet (fAndV (fUn (sIsT "bool") (fV 0)) (fBin sEq (fV 0) (fV 1))))
  fSkip)
  (fSeq (fIf (toB (fUn (sIsT "int") (fV 1)))
  (fRet (fAndV (fUn (sIsT "int") (fV 0)) (fAndV (fNotV (fUn (sIsT "bool") (fV 0))) (fBin sEq (fV 0) (fV 1)))))
  fSkip)
  (fSeq (fIf (fAnd (toB (fUn (sIsT "list") (fV 1))) (fNot (toB (fUn (sIsT "list") (fV 0)))))
  (fRet (fC (.bool false)))
  fSkip)
  (fSeq (fIf (fAnd (toB (fUn (sIsT "tuple") (fV 1))) (fNot (toB (fUn (sIsT "tuple") (fV 0)))))
  (fRet (fC (.bool false)))
  fSkip)
  (fSeq (fIf (toB (fBin sNe (fCl (o1 sLen) (aCons (fV 0) aNil)) (fCl (o1 sLen) (aCons (fV 1) aNil))))
  (fRet (fC (.bool false)))
  fSkip)
  (fSeq (fFor (iRg1 (aCons (fCl (o1 sLen) (aCons (fV 1) aNil)) aNil)) (tgN 2)
  (fIf (fNot (toB (fCall rec (aCons (fBin sIx (fV 0) (fV 2)) (aCons (fBin sIx (fV 1) (fV 2)) aNil)))))
  (fRet (fC (.bool false)))
  fSkip))
  (fRet (fC (.bool true))))))))))
def h_law_same : Nat → List D → Rs D
  | 0 => fun _ => .stuck
  | n + 1 => runB false 2 3 (g_law_same (h_law_same n))
def f_law_same : List D → Rs D := h_law_same 9
theorem u_law_same (n : Nat) (y0 y1 : D) : h_law_same (n + 1) [y0, y1] = (g_law_same (h_law_same n) [.va y0, .va y1, .un]).res false := runB_eq rfl
def b_last_costs_1 : Rho → Out := (fSeq (fAsgT (tgT [(tgN 8), (tgN 9), (tgN 10)]) (fBin sIx (fV 0) (fV 7)))
  (fSeq (fAug 6 sAddI (fBin sMul (fV 10) (fV 5)))
  (fSeq (fAug 5 sAddI (fV 8))
  (fSet 4 (fBin sAdd (fBin sAdd (fBin sIx (fV 1) (fV 7)) (fV 9)) (fV 6)) (fV 7)))))
def g_last_costs : Rho → Out := (fSeq (fAsgO 4 (fBin sRep (fLst (aCons (fC (.int 0)) aNil)) (fV 2)))
  (fSeq (fAsg 5 (fV 3))
  (fSeq (fAsg 6 (fC (.int 0)))
  (fSeq (fFor (iRvR (fV 2)) (tgN 7)
  b_last_costs_1)
  (fFz 4 (fRet (fV 4)))))))
def f_last_costs : List D → Rs D := runB false 4 11 g_last_costs
theorem u_last_costs (y0 y1 y2 y3 : D) : f_last_costs [y0, y1, y2, y3] = (g_last_costs [.va y0, .va y1, .va y2, .va y3, .un, .un, .un, .un, .un, .un, .un]).res false := runB_eq rfl
def c_law_costs_1 : Rho → Rs D := (fComp [1] (iRg1 (aCons (fCl (o1 sLen) (aCons (fV 0) aNil)) aNil)) (tgN 1) fYes (fC .none))
def b_law_costs_1 : Rho → Out := (fSeq (fAsg 4 (fBin sAdd (fV 4) (fBin sMul (fV 5) (fBin sIx (fBin sIx (fV 0) (fV 6)) (fC (.int 0))))))
  (fSeq (fAsg 5 (fBin sAdd (fV 5) (fBin sIx (fBin sIx (fV 0) (fV 6)) (fC (.int 2)))))
  (fIf (fOr (toB (fUn sIsN (fBin sIx (fB 2) (fBin sAdd (fV 6) (fC (.int 1)))))) (toB (fBin sLt (fV 4) (fBin sIx (fB 2) (fBin sAdd (fV 6) (fC (.int 1)))))))
  (fSet 2 (fV 4) (fBin sAdd (fV 6) (fC (.int 1))))
  fSkip)))
def b_law_costs_2 : Rho → Out := (fSeq (fIf (fAnd (toB (fBin sGt (fV 3) (fC (.int 0)))) (toB (fBin sEq (fBin sIx (fBin sIx (fV 0) (fBin sSub (fV 3) (fC (.int 1)))) (fC (.int 0))) (fC (.int 0)))))
  (fSet 2 (fCl (o2 sMin2) (aCons (fBin sIx (fB 2) (fV 3)) (aCons (fBin sIx (fB 2) (fBin sSub (fV 3) (fC (.int 1)))) aNil))) (fV 3))
  fSkip)
  (fSeq (fAsg 4 (fBin sAdd (fBin sIx (fB 2) (fV 3)) (fBin sIx (fBin sIx (fV 0) (fV 3)) (fC (.int 1)))))
  (fSeq (fAsg 5 (fC (.int 0)))
  (fFor (iRg2 (aCons (fV 3) (aCons (fCl (o1 sLen) (aCons (fV 0) aNil)) aNil))) (tgN 6)
  b_law_costs_1))))
def g_law_costs : Rho → Out := (fSeq (fAsgO 2 (fBin sCat (fLst (aCons (fC (.int 0)) aNil)) c_law_costs_1))
  (fSeq (fFor (iRg1 (aCons (fCl (o1 sLen) (aCons (fV 0) aNil)) aNil)) (tgN 3)
  b_law_costs_2)
  (fSeq (fIf (fAnd (toB (fBin sGt (fCl (o1 sLen) (aCons (fV 0) aNil)) (fC (.int 0)))) (toB (fBin sEq (fBin sIx (fBin sIx (fV 0) (fUn sNeg (fC (.int 1)))) (fC (.int 0))) (fC (.int 0)))))
  (fSet 2 (fCl (o2 sMin2) (aCons (fBin sIx (fB 2) (fUn sNeg (fC (.int 1)))) (aCons (fBin sIx (fB 2) (fUn sNeg (fC (.int 2)))) aNil))) (fUn sNeg (fC (.int 1))))
  fSkip)
  (fFz 2 (fRet (fV 2))))))
def f_law_costs : List D → Rs D := runB false 1 7 g_law_costs
theorem u_law_costs (y0 : D) : f_law_costs [y0] = (g_law_costs [.va y0, .un, .un, .un, .un, .un, .un]).res false := runB_eq rfl
def b_least_costs_1 : Rho → Out := (fIf (toB (fBin sEq (fBin sIx (fBin sIx (fV 0) (fBin sSub (fV 2) (fC (.int 1)))) (fC (.int 0))) (fC (.int 0))))
  (fMut 1 (aCons (fBin sIx (fB 1) (fUn sNeg (fC (.int 1)))) aNil) mAppend)
  (fMut 1 (aCons (fCl (o1 sMin) (aCons (fCallB f_last_costs (aCons (fV 0) (aCons (fB 1) (aCons (fV 2) (aCons (fC (.int 0)) aNil))))) aNil)) aNil) mAppend))
def g_least_costs : Rho → Out := (fSeq (fDrop (fCallD f_check_periods .none (aCons (fV 0) aNil)))
  (fSeq (fAsgO 1 (fLst (aCons (fC (.int 0)) aNil)))
  (fSeq (fFor (iRg2 (aCons (fC (.int 1)) (aCons (fBin sAdd (fCl (o1 sLen) (aCons (fV 0) aNil)) (fC (.int 1))) aNil))) (tgN 2)
  b_least_costs_1)
  (fRetV 1))))
def f_least_costs : List D → Rs D := runB true 1 3 g_least_costs
theorem u_least_costs (y0 : D) : f_least_costs [y0] = (g_least_costs [.va y0, .un, .un]).res true := runB_eq rfl
def c_law_high_1 : Rho → Rs D := (fComp [2, 3, 4] (iLst (fV 0)) (tgT [(tgN 2), (tgN 3), (tgN 4)]) fYes (fV 2))
def c_law_high_2 : Rho → Rs D := (fComp [2, 3, 4] (iLst (fV 0)) (tgT [(tgN 2), (tgN 3), (tgN 4)]) fYes (fBin sAdd (fV 3) (fBin sMul (fV 5) (fV 4))))
def g_law_high : Rho → Out := (fSeq (fAsg 5 (fBin sAdd (fV 1) (fCl (o1 sSum) (aCons c_law_high_1 aNil))))
  (fRet (fBin sAdd (fC (.int 1)) (fCl (o1 sSum) (aCons c_law_high_2 aNil)))))
def f_law_high : List D → Rs D := runB false 2 6 g_law_high
theorem u_law_high (y0 y1 : D) : f_law_high [y0, y1] = (g_law_high [.va y0, .va y1, .un, .un, .un, .un]).res false := runB_eq rfl
def g_check_ending : Rho → Out := (fSeq (fDrop (fCallD f_check_periods .none (aCons (fV 0) aNil)))
  (fSeq (fIf (toB (fBin sLt (fV 1) (fC (.int 0))))
  (fRaise 7 aNil)
  fSkip)
  (fIf (fAnd (toB (fBin sGt (fV 1) (fC (.int 0)))) (toB (fBin sEq (fCl (o1 sLen) (aCons (fV 0) aNil)) (fC (.int 0)))))
  (fRaise 2 aNil)
  fSkip)))
def f_check_ending : List D → Rs D := runB false 2 2 g_check_ending
theorem u_check_ending (y0 y1 : D) : f_check_ending [y0, y1] = (g_check_ending [.va y0, .va y1]).res false := runB_eq rfl
def g_law_least : Rho → Out := (fSeq (fIf (toB (fBin sEq (fV 1) (fC (.int 0))))
  (fRet (fBin sIx (fCall f_law_costs (aCons (fV 0) aNil)) (fUn sNeg (fC (.int 1)))))
  fSkip)
  (fRet (fBin sIx (fCall f_law_costs (aCons (fBin sAdd (fV 0) (fLst (aCons (fTup (aCons (fV 1) (aCons (fCall f_law_high (aCons (fV 0) (aCons (fV 1) aNil))) (aCons (fC (.int 1)) aNil)))) aNil))) aNil)) (fUn sNeg (fC (.int 1))))))
def f_law_least : List D → Rs D := runB false 2 2 g_law_least
theorem u_law_least (y0 y1 : D) : f_law_least [y0, y1] = (g_law_least [.va y0, .va y1]).res false := runB_eq rfl
def g_least_cost : Rho → Out := (fSeq (fDrop (fCall f_check_ending (aCons (fV 0) (aCons (fV 1) aNil))))
  (fSeq (fAsg 2 (fCall f_least_costs (aCons (fV 0) aNil)))
  (fSeq (fIf (toB (fBin sEq (fV 1) (fC (.int 0))))
  (fRet (fBin sIx (fV 2) (fUn sNeg (fC (.int 1)))))
  fSkip)
  (fRet (fCl (o1 sMin) (aCons (fCall f_last_costs (aCons (fV 0) (aCons (fV 2) (aCons (fCl (o1 sLen) (aCons (fV 0) aNil)) (aCons (fV 1) aNil))))) aNil))))))
def f_least_cost : List D → Rs D := runB false 2 3 g_least_cost
theorem u_least_cost (y0 y1 : D) : f_least_cost [y0, y1] = (g_least_cost [.va y0, .va y1, .un]).res false := runB_eq rfl
def b_cost_lines_1 : Rho → Out := (fSeq (fAug 2 sAddI (fBin sIx (fBin sIx (fV 0) (fV 4)) (fC (.int 2))))
  (fMut 3 (aCons (fTup (aCons (fBin sIx (fV 1) (fV 4)) (aCons (fV 2) aNil))) aNil) mAppend))
def g_cost_lines : Rho → Out := (fSeq (fAsg 1 (fCall f_last_costs (aCons (fV 0) (aCons (fCall f_least_costs (aCons (fV 0) aNil)) (aCons (fCl (o1 sLen) (aCons (fV 0) aNil)) (aCons (fC (.int 0)) aNil))))))
  (fSeq (fAsg 2 (fC (.int 0)))
  (fSeq (fAsgO 3 (fLst aNil))
  (fSeq (fFor (iRvR (fCl (o1 sLen) (aCons (fV 0) aNil))) (tgN 4)
  b_cost_lines_1)
  (fSeq (fMut 3 aNil mReverse)
  (fFz 3 (fRet (fV 3))))))))
def f_cost_lines : List D → Rs D := runB false 1 5 g_cost_lines
theorem u_cost_lines (y0 : D) : f_cost_lines [y0] = (g_cost_lines [.va y0, .un, .un, .un, .un]).res false := runB_eq rfl
def c_greatest_forced_1 : Rho → Rs D := (fComp [3, 4] (iLst (fCall f_cost_lines (aCons (fV 0) aNil))) (tgT [(tgN 3), (tgN 4)]) fYes (fBin sDiv (fBin sSub (fV 2) (fV 3)) (fV 4)))
def g_greatest_forced : Rho → Out := (fSeq (fDrop (fCallD f_check_periods .none (aCons (fV 0) aNil)))
  (fSeq (fIf (toB (fBin sEq (fCl (o1 sLen) (aCons (fV 0) aNil)) (fC (.int 0))))
  (fRaise 2 aNil)
  fSkip)
  (fSeq (fIf (toB (fUn sIsN (fV 1)))
  (fRet (fC .none))
  fSkip)
  (fSeq (fAsg 2 (fBin sSub (fBin sAdd (fCallD f_least_cost (.int 0) (aCons (fV 0) aNil)) (fV 1)) (fC (.int 1))))
  (fRet (fCl (o1 sMax) (aCons (fBin sAdd (fLst (aCons (fC (.int 0)) aNil)) c_greatest_forced_1) aNil)))))))
def f_greatest_forced : List D → Rs D := runB false 2 5 g_greatest_forced
theorem u_greatest_forced (y0 y1 : D) : f_greatest_forced [y0, y1] = (g_greatest_forced [.va y0, .va y1, .un, .un, .un]).res false := runB_eq rfl
def b_law_lines_1 : Rho → Out := (fSeq (fAsg 4 (fBin sAdd (fV 4) (fBin sMul (fV 5) (fV 6))))
  (fAsg 5 (fBin sAdd (fV 5) (fV 8))))
def b_law_lines_2 : Rho → Out := (fSeq (fAsg 4 (fBin sAdd (fBin sIx (fV 1) (fV 3)) (fBin sIx (fBin sIx (fV 0) (fV 3)) (fC (.int 1)))))
  (fSeq (fAsg 5 (fC (.int 0)))
  (fSeq (fFor (iLst (fSlice (fV 0) (fPart (some (fV 3))) (fPart none))) (tgT [(tgN 6), (tgN 7), (tgN 8)])
  b_law_lines_1)
  (fMut 2 (aCons (fTup (aCons (fV 4) (aCons (fV 5) aNil))) aNil) mAppend))))
def g_law_lines : Rho → Out := (fSeq (fAsg 1 (fCall f_law_costs (aCons (fV 0) aNil)))
  (fSeq (fAsgO 2 (fLst aNil))
  (fSeq (fFor (iRg1 (aCons (fCl (o1 sLen) (aCons (fV 0) aNil)) aNil)) (tgN 3)
  b_law_lines_2)
  (fFz 2 (fRet (fV 2))))))
def f_law_lines : List D → Rs D := runB false 1 9 g_law_lines
theorem u_law_lines (y0 : D) : f_law_lines [y0] = (g_law_lines [.va y0, .un, .un, .un, .un, .un, .un, .un, .un]).res false := runB_eq rfl
def c_plans_from_1 : Rho → Rs D := (fComp [5] (iLst (fSlice (fV 0) (fPart (some (fV 4))) (fPart (some (fV 2))))) (tgN 5) fYes (fBin sIx (fV 5) (fC (.int 0))))
def c_plans_from_2 : Rho → Rs D := (fComp [8] (iVals' (fBin sIx (fV 1) (fV 4))) (tgN 8) fYes (fBin sAdd (fV 8) (fV 7)))
def g_plans_from : Rho → Out := (fSeq (fAsg 6 (fBin sAdd (fV 3) (fCl (o1 sSum) (aCons c_plans_from_1 aNil))))
  (fSeq (fAsg 7 (fBin sAdd (fLst (aCons (fV 6) aNil)) (fBin sMul (fLst (aCons (fC (.int 0)) aNil)) (fBin sSub (fBin sSub (fV 2) (fV 4)) (fC (.int 1))))))
  (fSeq (fIf (toB (fBin sEq (fV 4) (fC (.int 0))))
  (fRet (fLst (aCons (fV 7) aNil)))
  fSkip)
  (fRet c_plans_from_2))))
def f_plans_from : List D → Rs D := runB false 5 9 g_plans_from
theorem u_plans_from (y0 y1 y2 y3 y4 : D) : f_plans_from [y0, y1, y2, y3, y4] = (g_plans_from [.va y0, .va y1, .va y2, .va y3, .va y4, .un, .un, .un, .un]).res false := runB_eq rfl
def c_best_starts_1 : Rho → Rs D := (fComp [6] (iRg1 (aCons (fV 2) aNil)) (tgN 6) (toB (fBin sEq (fBin sIx (fV 4) (fV 6)) (fV 5))) (fV 6))
def g_best_starts : Rho → Out := (fSeq (fAsg 4 (fCall f_last_costs (aCons (fV 0) (aCons (fV 1) (aCons (fV 2) (aCons (fV 3) aNil))))))
  (fSeq (fAsg 5 (fCl (o1 sMin) (aCons (fV 4) aNil)))
  (fRet c_best_starts_1)))
def f_best_starts : List D → Rs D := runB false 4 7 g_best_starts
theorem u_best_starts (y0 y1 y2 y3 : D) : f_best_starts [y0, y1, y2, y3] = (g_best_starts [.va y0, .va y1, .va y2, .va y3, .un, .un, .un]).res false := runB_eq rfl
def c_plans_by_first_1 : Rho → Rs D := (fDComp [5, 6] (iItems' (fBin sIx (fV 2) (fBin sSub (fV 3) (fC (.int 1))))) (tgT [(tgN 5), (tgN 6)]) fYes (fV 5) (fBin sAdd (fV 6) (fLst (aCons (fC (.int 0)) aNil))))
def b_plans_by_first_1 : Rho → Out := (fIf (fOr (toB (fBin sDNotIn (fBin sIx (fV 6) (fC (.int 0))) (fOd 7))) (toB (fBin sLtL (fV 6) (fBin sDGet (fOd 7) (fBin sIx (fV 6) (fC (.int 0)))))))
  (fDPut 7 (fV 6) (fBin sIx (fV 6) (fC (.int 0))))
  fSkip)
def b_plans_by_first_2 : Rho → Out := (fFor (iLst (fCall f_plans_from (aCons (fV 0) (aCons (fV 2) (aCons (fV 3) (aCons (fV 4) (aCons (fV 8) aNil))))))) (tgN 6)
  b_plans_by_first_1)
def g_plans_by_first : Rho → Out := (fSeq (fIf (fAnd (toB (fBin sEq (fV 4) (fC (.int 0)))) (toB (fBin sEq (fBin sIx (fBin sIx (fV 0) (fBin sSub (fV 3) (fC (.int 1)))) (fC (.int 0))) (fC (.int 0)))))
  (fSeq (fIf (toB (fBin sEq (fV 3) (fC (.int 1))))
  (fRet (fDisp1 (fC (.int 0)) (fLst (aCons (fC (.int 0)) aNil))))
  fSkip)
  (fRet c_plans_by_first_1))
  fSkip)
  (fSeq (fAsgM 7 (fC (.dict [])))
  (fSeq (fFor (iLst (fCall f_best_starts (aCons (fV 0) (aCons (fV 1) (aCons (fV 3) (aCons (fV 4) aNil)))))) (tgN 8)
  b_plans_by_first_2)
  (fRetM 7))))
def f_plans_by_first : List D → Rs D := runB false 5 9 g_plans_by_first
theorem u_plans_by_first (y0 y1 y2 y3 y4 : D) : f_plans_by_first [y0, y1, y2, y3, y4] = (g_plans_by_first [.va y0, .va y1, .va y2, .va y3, .va y4, .un, .un, .un, .un]).res false := runB_eq rfl
def b_plan_table_1 : Rho → Out := (fMut 2 (aCons (fCallN 2 f_plans_by_first (aCons (fV 0) (aCons (fV 1) (aCons (fB 2) (aCons (fV 3) (aCons (fC (.int 0)) aNil)))))) aNil) mAppend)
def g_plan_table : Rho → Out := (fSeq (fAsg 1 (fCall f_least_costs (aCons (fV 0) aNil)))
  (fSeq (fAsgO 2 (fLst (aCons (fC (.dict [])) aNil)))
  (fSeq (fFor (iRg2 (aCons (fC (.int 1)) (aCons (fBin sAdd (fCl (o1 sLen) (aCons (fV 0) aNil)) (fC (.int 1))) aNil))) (tgN 3)
  b_plan_table_1)
  (fFz 2 (fRet (fV 2))))))
def f_plan_table : List D → Rs D := runB false 1 4 g_plan_table
theorem u_plan_table (y0 : D) : f_plan_table [y0] = (g_plan_table [.va y0, .un, .un, .un]).res false := runB_eq rfl
def g_law_grown : Rho → Out := (fSeq (fIf (fAnd (toB (fBin sEq (fV 1) (fC (.int 1)))) (toB (fBin sGt (fCl (o1 sLen) (aCons (fV 0) aNil)) (fC (.int 0)))))
  (fRet (fBin sAdd (fC (.int 1)) (fBin sMod (fCl (o1 sInt) (aCons (fBin sDiv (fCall f_law_number (aCons (fV 0) (aCons (fC (.int 0)) aNil))) (fC (.int 144))) aNil)) (fC (.int 6)))))
  fSkip)
  (fRet (fV 1)))
def f_law_grown : List D → Rs D := runB false 2 2 g_law_grown
theorem u_law_grown (y0 y1 : D) : f_law_grown [y0, y1] = (g_law_grown [.va y0, .va y1]).res false := runB_eq rfl
def b_best_ranges_1 : Rho → Out := (fAsg 5 (fCl (o2 sMax2) (aCons (fV 5) (aCons (fUn sNeg (fBin sDiv (fBin sSub (fV 6) (fV 3)) (fBin sSub (fV 7) (fV 4)))) aNil))))
def b_best_ranges_2 : Rho → Out := (fSeq (fAsg 10 (fBin sDiv (fBin sSub (fV 6) (fV 3)) (fBin sSub (fV 4) (fV 9))))
  (fIf (fOr (toB (fUn sIsN (fV 8))) (toB (fBin sLt (fV 10) (fV 8))))
  (fAsg 8 (fV 10))
  fSkip))
def b_best_ranges_3 : Rho → Out := (fSeq (fAsg 5 (fC (.int 1)))
  (fSeq (fFor (iLst (fSlice (fV 0) (fPart none) (fPart (some (fV 2))))) (tgT [(tgN 6), (tgN 7)])
  b_best_ranges_1)
  (fSeq (fAsg 8 (fC .none))
  (fSeq (fFor (iLst (fSlice (fV 0) (fPart (some (fBin sAdd (fV 2) (fC (.int 1))))) (fPart none))) (tgT [(tgN 6), (tgN 9)])
  b_best_ranges_2)
  (fIf (fAnd (toB (fUn sNotN (fV 8))) (toB (fBin sLt (fV 8) (fV 5))))
  (fMut 1 (aCons (fC .none) aNil) mAppend)
  (fMut 1 (aCons (fTup (aCons (fV 5) (aCons (fV 8) aNil))) aNil) mAppend))))))
def g_best_ranges : Rho → Out := (fSeq (fAsgO 1 (fLst aNil))
  (fSeq (fFor (iEnu (fV 0)) (tgT [(tgN 2), (tgT [(tgN 3), (tgN 4)])])
  b_best_ranges_3)
  (fFz 1 (fRet (fV 1)))))
def f_best_ranges : List D → Rs D := runB false 1 11 g_best_ranges
theorem u_best_ranges (y0 : D) : f_best_ranges [y0] = (g_best_ranges [.va y0, .un, .un, .un, .un, .un, .un, .un, .un, .un, .un]).res false := runB_eq rfl
def b_profile_pieces_1 : Rho → Out := (fIf (toB (fUn sNotN (fV 4)))
  (fMut 2 (aCons (fTup (aCons (fV 3) (aCons (fBin sIx (fV 4) (fC (.int 0))) (aCons (fBin sIx (fV 4) (fC (.int 1))) (aCons (fBin sIx (fBin sIx (fV 1) (fV 3)) (fC (.int 0))) (aCons (fBin sIx (fBin sIx (fV 1) (fV 3)) (fC (.int 1))) aNil)))))) aNil) mAppend)
  fSkip)
def g_profile_pieces : Rho → Out := (fSeq (fAsg 1 (fCall f_cost_lines (aCons (fV 0) aNil)))
  (fSeq (fAsgO 2 (fLst aNil))
  (fSeq (fFor (iEnu (fCall f_best_ranges (aCons (fV 1) aNil))) (tgT [(tgN 3), (tgN 4)])
  b_profile_pieces_1)
  (fFz 2 (fRet (fV 2))))))
def f_profile_pieces : List D → Rs D := runB false 1 5 g_profile_pieces
theorem u_profile_pieces (y0 : D) : f_profile_pieces [y0] = (g_profile_pieces [.va y0, .un, .un, .un, .un]).res false := runB_eq rfl
def c_law_pieces_1 : Rho → Rs D := (fComp [5, 6] (iLst (fV 1)) (tgT [(tgN 5), (tgN 6)]) fYes (fBin sAdd (fV 5) (fBin sMul (fV 6) (fV 3))))
def c_law_pieces_2 : Rho → Rs D := (fComp [8] (iRg1 (aCons (fCl (o1 sLen) (aCons (fV 1) aNil)) aNil)) (tgN 8) (toB (fBin sEq (fBin sIx (fV 7) (fV 8)) (fCl (o1 sMin) (aCons (fV 7) aNil)))) (fV 8))
def b_law_pieces_1 : Rho → Out := (fIf (fAnd (toB (fBin sGt (fCl (o1 sLen) (aCons (fT 2) aNil)) (fC (.int 0)))) (toB (fBin sEq (fBin sIx (fBin sIx (fT 2) (fUn sNeg (fC (.int 1)))) (fC (.int 0))) (fV 8))))
  (fSetP 2 (fV 3) (fUn sNeg (fC (.int 1))) (fC (.int 2)))
  (fAppW 2 (.r .g) (fLst (aCons (fV 8) (aCons (fV 3) (aCons (fV 3) aNil))))))
def c_law_pieces_3 : Rho → Rs D := (fComp [11, 12] (iLst (fSlice (fV 1) (fPart (some (fBin sAdd (fV 10) (fC (.int 1))))) (fPart none))) (tgT [(tgN 11), (tgN 12)]) fYes (fUn sNeg (fBin sDiv (fBin sSub (fV 5) (fV 11)) (fBin sSub (fV 6) (fV 12)))))
def b_law_pieces_2 : Rho → Out := (fSeq (fAsg 7 c_law_pieces_1)
  (fSeq (fAsg 9 c_law_pieces_2)
  (fSeq (fFor (iLst (fV 9)) (tgN 8)
  b_law_pieces_1)
  (fSeq (fAsg 10 (fBin sIx (fV 9) (fUn sNeg (fC (.int 1)))))
  (fSeq (fIf (toB (fBin sEq (fV 10) (fBin sSub (fCl (o1 sLen) (aCons (fV 1) aNil)) (fC (.int 1)))))
  (fSeq (fSetP 2 (fC .none) (fUn sNeg (fC (.int 1))) (fC (.int 2)))
  (fun ρ => .brk ρ))
  fSkip)
  (fSeq (fAsgT (tgT [(tgN 5), (tgN 6)]) (fBin sIx (fV 1) (fV 10)))
  (fSeq (fAsg 3 (fCl (o1 sMin) (aCons c_law_pieces_3 aNil)))
  (fSetP 2 (fBin sSub (fV 3) (fC (.int 1))) (fUn sNeg (fC (.int 1))) (fC (.int 2))))))))))
def g_law_pieces : Rho → Out := (fSeq (fAsg 1 (fCall f_law_lines (aCons (fV 0) aNil)))
  (fSeq (fAsgW 2 (.r (.r .g)) (fLst aNil))
  (fSeq (fAsg 3 (fC (.int 1)))
  (fSeq (fFor (iRg1 (aCons (fCl (o1 sLen) (aCons (fV 1) aNil)) aNil)) (tgN 4)
  b_law_pieces_2)
  (fRetW 2 (.r (.r .g)))))))
def f_law_pieces : List D → Rs D := runB true 1 13 g_law_pieces
theorem u_law_pieces (y0 : D) : f_law_pieces [y0] = (g_law_pieces [.va y0, .un, .un, .un, .un, .un, .un, .un, .un, .un, .un, .un, .un]).res true := runB_eq rfl
def g_law_asked : Rho → Out := (fSeq (fIf (toB (fBin sEq (fCl (o1 sLen) (aCons (fV 0) aNil)) (fC (.int 0))))
  (fRet (fLst (aCons (fC (.int 0)) aNil)))
  fSkip)
  (fRet (fV 1)))
def f_law_asked : List D → Rs D := runB false 2 2 g_law_asked
theorem u_law_asked (y0 y1 : D) : f_law_asked [y0, y1] = (g_law_asked [.va y0, .va y1]).res false := runB_eq rfl
def b_law_due_1 : Rho → Out := (fMut 3 (aCons (fTup (aCons (fV 4) (aCons (fV 5) (aCons (fV 6) (aCons (fBin sIx (fBin sIx (fV 2) (fV 4)) (fC (.int 0))) (aCons (fBin sIx (fBin sIx (fV 2) (fV 4)) (fC (.int 1))) aNil)))))) aNil) mAppend)
def c_law_due_1 : Rho → Rs D := (fComp [7] (iLst (fCall f_law_asked (aCons (fV 0) (aCons (fV 1) aNil)))) (tgN 7) fYes (fCall f_law_least (aCons (fV 0) (aCons (fV 7) aNil))))
def g_law_due : Rho → Out := (fSeq (fAsg 2 (fCall f_law_lines (aCons (fV 0) aNil)))
  (fSeq (fAsgO 3 (fLst aNil))
  (fSeq (fFor (iLst (fCall f_law_pieces (aCons (fV 0) aNil))) (tgTl [(tgN 4), (tgN 5), (tgN 6)])
  b_law_due_1)
  (fSeq (fAsg 8 c_law_due_1)
  (fFz 3 (fRet (fLst (aCons (fV 3) (aCons (fCl (o1 sLen) (aCons (fV 0) aNil)) (aCons (fBin sIx (fCall f_law_costs (aCons (fV 0) aNil)) (fUn sNeg (fC (.int 1)))) (aCons (fV 8) aNil)))))))))))
def f_law_due : List D → Rs D := runB false 2 9 g_law_due
theorem u_law_due (y0 y1 : D) : f_law_due [y0, y1] = (g_law_due [.va y0, .va y1, .un, .un, .un, .un, .un, .un, .un]).res false := runB_eq rfl
def b_first_gap_1 : Rho → Out := (fIf (fAnd (toB (fBin sGt (fV 5) (fC (.int 0)))) (toB (fBin sDIn (fV 2) (fD (fBin sIx (fV 0) (fV 5))))))
  (fSeq (fIf (toB (fBin sGt (fV 6) (fBin sAdd (fV 4) (fC (.int 1)))))
  (fun ρ => .brk ρ)
  fSkip)
  (fSeq (fIf (toB (fUn sIsN (fV 7)))
  (fRet (fC .none))
  fSkip)
  (fAsg 4 (fCl (o2 sMax2) (aCons (fV 4) (aCons (fV 7) aNil))))))
  fSkip)
def g_first_gap : Rho → Out := (fSeq (fIf (toB (fBin sDNotIn (fV 2) (fD (fBin sIx (fV 0) (fUn sNeg (fC (.int 1)))))))
  (fRet (fC (.int 0)))
  fSkip)
  (fSeq (fAsg 4 (fC (.int 0)))
  (fSeq (fFor (iLst (fV 1)) (tgT [(tgN 5), (tgN 6), (tgN 7), (tgN 8), (tgN 9)])
  b_first_gap_1)
  (fSeq (fIf (fAnd (toB (fUn sNotN (fV 3))) (toB (fBin sGe (fV 4) (fV 3))))
  (fRet (fC .none))
  fSkip)
  (fRet (fBin sAdd (fV 4) (fC (.int 1))))))))
def f_first_gap : List D → Rs D := runB false 4 10 g_first_gap
theorem u_first_gap (y0 y1 y2 y3 : D) : f_first_gap [y0, y1, y2, y3] = (g_first_gap [.va y0, .va y1, .va y2, .va y3, .un, .un, .un, .un, .un, .un]).res false := runB_eq rfl
def c_safe_orders_1 : Rho → Rs D := (fComp [6] (iLst (fV 5)) (tgN 6) (toB (fUn sIsN (fCall f_first_gap (aCons (fV 3) (aCons (fV 4) (aCons (fV 6) (aCons (fV 2) aNil))))))) (fV 6))
def g_safe_orders : Rho → Out := (fSeq (fAsg 2 (fCallK f_greatest_forced (aCons (fV 0) aNil) (fV 1)))
  (fSeq (fAsg 3 (fCall f_plan_table (aCons (fV 0) aNil)))
  (fSeq (fAsg 4 (fCall f_profile_pieces (aCons (fV 0) aNil)))
  (fSeq (fAsg 5 (fSortK (fD (fBin sIx (fV 3) (fUn sNeg (fC (.int 1)))))))
  (fRet c_safe_orders_1)))))
def f_safe_orders : List D → Rs D := runB true 2 7 g_safe_orders
theorem u_safe_orders (y0 y1 : D) : f_safe_orders [y0, y1] = (g_safe_orders [.va y0, .va y1, .un, .un, .un, .un, .un]).res true := runB_eq rfl
end Lw

namespace Lw
open PySem Ct L2
theorem cell_is (ns : List Int) (k : Int) (hk : 0 ≤ k) : ∃ c : Int, 0 ≤ c ∧ f_law_cell [scriptD ns, .int k] = .ok (.int c) := by
  rw [u_law_cell]
  unfold g_law_cell
  by_cases h : k < (ns.length : Int)
  · have hl : k.toNat < ns.length := by omega
    have e := ix_scr (ns := ns) (i := k) hk (List.getElem?_eq_getElem hl)
    refine ⟨if ns[k.toNat] < 0 then -ns[k.toNat] else ns[k.toNat], by split <;> omega, ?_⟩
    simp [h, e]
  · exact ⟨0, Int.le_refl _, by simp [h]⟩
theorem number_is (ns : List Int) (k : Int) (hk : 0 ≤ k) (hk2 : k < 1000) : ∃ c : Int, 0 ≤ c ∧ f_law_number [scriptD ns, .int k] = .ok (.int c) := by
  obtain ⟨c, hc, e⟩ := cell_is ns k hk
  rw [u_law_number]
  unfold g_law_number
  by_cases h : (1000000000000000000 : Int) ≤ c
  · exact ⟨c, hc, by simp [e, h]⟩
  · have sk : Sm 60 k := by unfold Sm; omega
    have m1 : sMul (.int c) (.int 48271) = .ok (.int (c * 48271)) := mul_ok (a := 60) (b := 60) (by unfold Sm; omega) (by unfold Sm; omega)
    have m2 : sMul (.int 7) (.int k) = .ok (.int (7 * k)) := mul_ok (a := 60) (b := 60) (by unfold Sm; omega) sk
    have m3 : ∀ i : Int, sMul (.int (i % 2147483647)) (.int 69621) = .ok (.int (i % 2147483647 * 69621)) := fun i => mul_ok (a := 60) (b := 60) (by unfold Sm; omega) (by unfold Sm; omega)
    have m4 : sMul (.int 13) (.int k) = .ok (.int (13 * k)) := mul_ok (a := 60) (b := 60) (by unfold Sm; omega) sk
    have m5 : ∀ i : Int, sMul (.int 2147483647) (.int (i % 2147483629)) = .ok (.int (2147483647 * (i % 2147483629))) := fun i => mul_ok (a := 60) (b := 60) (by unfold Sm; omega) (by unfold Sm; omega)
    have d1 : ∀ i : Int, sMod (.int i) (.int 2147483647) = .ok (.int (i % 2147483647)) := fun i => q_sMod (by decide)
    have d2 : ∀ i : Int, sMod (.int i) (.int 2147483629) = .ok (.int (i % 2147483629)) := fun i => q_sMod (by decide)
    refine ⟨(c * 48271 + 7 * k + 11) % 2147483647 + 2147483647 * (((c * 48271 + 7 * k + 11) % 2147483647 * 69621 + 13 * k + 5) % 2147483629), by omega, ?_⟩
    simp [e, h, m1, m2, m3, m4, m5, d1, d2]
def pd (x : Int × Int × Int) : D := .tuple [.int x.1, .int x.2.1, .int x.2.2]
structure Good (x : Int × Int × Int) : Prop where
  d0 : 0 ≤ x.1
  s0 : 0 ≤ x.2.1
  h1 : 1 ≤ x.2.2
  db : x.1 < 10 ^ 60
  sb : x.2.1 < 10 ^ 60
  hb : x.2.2 < 10 ^ 60
def rowsD (l : List (Int × Int × Int)) : D := .list (l.map pd)
theorem dv_ok (i j : Int) (h1 : 0 < j) (h2 : Sm 400 j) : sDiv (.int i) (.int j) = .ok (.int (i / j)) := q_sDiv h1 (Nat.lt_of_le_of_lt h2.log (by decide))
theorem period5 (n : Int) : ∃ x, Good x ∧ f_law_period [.int n, .int 5] = .ok (pd x) := by
  rw [u_law_period]
  unfold g_law_period
  have m1 : ∀ i : Int, sMul (.int (i % 1000000000000000000000000000000000000000000000000000000000000)) (.int (i % 1000000000000000000000000000000000000000000000000000000000000)) = .ok (.int (i % 1000000000000000000000000000000000000000000000000000000000000 * (i % 1000000000000000000000000000000000000000000000000000000000000))) := fun i => mul_ok (a := 300) (b := 300) (by unfold Sm; omega) (by unfold Sm; omega)
  have m2 : ∀ i : Int, sMul (.int 7919) (.int (i % 1000000000000000000000000000000000000000000000000000000000000)) = .ok (.int (7919 * (i % 1000000000000000000000000000000000000000000000000000000000000))) := fun i => mul_ok (a := 300) (b := 300) (by unfold Sm; omega) (by unfold Sm; omega)
  have d1 : ∀ i : Int, sMod (.int i) (.int 1000000000000000000000000000000000000000000000000000000000000) = .ok (.int (i % 1000000000000000000000000000000000000000000000000000000000000)) := fun i => q_sMod (by decide)
  have d2 : ∀ i : Int, sMod (.int i) (.int 1000000000000000000000000000000) = .ok (.int (i % 1000000000000000000000000000000)) := fun i => q_sMod (by decide)
  have d3 : ∀ i : Int, sDiv (.int i) (.int 1000000000000000000000000000000) = .ok (.int (i / 1000000000000000000000000000000)) := fun i => dv_ok _ _ (by decide) (by unfold Sm; omega)
  have d4 : ∀ i : Int, sDiv (.int i) (.int 1000000000000000000000000000000000000000000000) = .ok (.int (i / 1000000000000000000000000000000000000000000000)) := fun i => dv_ok _ _ (by decide) (by unfold Sm; omega)
  refine ⟨(n % 1000000000000000000000000000000000000000000000000000000000000 % 1000000000000000000000000000000, (n / 1000000000000000000000000000000 + n % 1000000000000000000000000000000000000000000000000000000000000 * (n % 1000000000000000000000000000000000000000000000000000000000000)) % 1000000000000000000000000000000000000000000000000000000000000, 1 + (n / 1000000000000000000000000000000000000000000000 / 1000000000000000000000000000000000000000000000 + 7919 * (n % 1000000000000000000000000000000000000000000000000000000000000)) % 1000000000000000000000000000000), ?_, ?_⟩
  · constructor <;> dsimp only <;> omega
  · simp [m1, m2, d1, d2, d3, d4, pd]
theorem period0 (n : Int) : ∃ x, Good x ∧ f_law_period [.int n, .int 0] = .ok (pd x) := by
  rw [u_law_period]
  unfold g_law_period
  have ix : sIx (.list [.tuple [.int 4, .int 8, .int 2], .tuple [.int 10, .int 40, .int 4], .tuple [.int 61, .int 301, .int 9], .tuple [.int 1000000, .int 1000000000, .int 1000], .tuple [.int 7, .int 30, .int 3]]) (.int 0) = .ok (.tuple [.int 4, .int 8, .int 2]) := rfl
  have m1 : sMul (.int 4) (.int 8) = .ok (.int 32) := mul_ok (a := 100) (b := 100) (by unfold Sm; omega) (by unfold Sm; omega)
  have m2 : sMul (.int 32) (.int 2) = .ok (.int 64) := mul_ok (a := 100) (b := 100) (by unfold Sm; omega) (by unfold Sm; omega)
  have e0 : ∀ i : Int, sMod (.int i) (.int 2) = .ok (.int (i % 2)) := fun i => q_sMod (by decide)
  have e1 : ∀ i : Int, sMod (.int i) (.int 4) = .ok (.int (i % 4)) := fun i => q_sMod (by decide)
  have e2 : ∀ i : Int, sMod (.int i) (.int 6) = .ok (.int (i % 6)) := fun i => q_sMod (by decide)
  have e3 : ∀ i : Int, sMod (.int i) (.int 8) = .ok (.int (i % 8)) := fun i => q_sMod (by decide)
  have f0 : ∀ i : Int, sDiv (.int i) (.int 4) = .ok (.int (i / 4)) := fun i => dv_ok _ _ (by decide) (by unfold Sm; omega)
  have f1 : ∀ i : Int, sDiv (.int i) (.int 32) = .ok (.int (i / 32)) := fun i => dv_ok _ _ (by decide) (by unfold Sm; omega)
  have f2 : ∀ i : Int, sDiv (.int i) (.int 64) = .ok (.int (i / 64)) := fun i => dv_ok _ _ (by decide) (by unfold Sm; omega)
  by_cases h0 : n / 64 % 6 = 0
  · refine ⟨(0, n / 4 % 8, 1 + n / 32 % 2), ?_, ?_⟩
    · constructor <;> dsimp only <;> omega
    · simp [h0, pd, ix, m1, m2, e0, e1, e2, e3, f0, f1, f2]
  · by_cases h1 : n / 64 % 6 = 1
    · refine ⟨(n % 4, 0, 1 + n / 32 % 2), ?_, ?_⟩
      · constructor <;> dsimp only <;> omega
      · simp [h1, pd, ix, m1, m2, e0, e1, e2, e3, f0, f1, f2]
    · refine ⟨(n % 4, n / 4 % 8, 1 + n / 32 % 2), ?_, ?_⟩
      · constructor <;> dsimp only <;> omega
      · simp [h0, h1, pd, ix, m1, m2, e0, e1, e2, e3, f0, f1, f2]
theorem period1 (n : Int) : ∃ x, Good x ∧ f_law_period [.int n, .int 1] = .ok (pd x) := by
  rw [u_law_period]
  unfold g_law_period
  have ix : sIx (.list [.tuple [.int 4, .int 8, .int 2], .tuple [.int 10, .int 40, .int 4], .tuple [.int 61, .int 301, .int 9], .tuple [.int 1000000, .int 1000000000, .int 1000], .tuple [.int 7, .int 30, .int 3]]) (.int 1) = .ok (.tuple [.int 10, .int 40, .int 4]) := rfl
  have m1 : sMul (.int 10) (.int 40) = .ok (.int 400) := mul_ok (a := 100) (b := 100) (by unfold Sm; omega) (by unfold Sm; omega)
  have m2 : sMul (.int 400) (.int 4) = .ok (.int 1600) := mul_ok (a := 100) (b := 100) (by unfold Sm; omega) (by unfold Sm; omega)
  have e0 : ∀ i : Int, sMod (.int i) (.int 4) = .ok (.int (i % 4)) := fun i => q_sMod (by decide)
  have e1 : ∀ i : Int, sMod (.int i) (.int 6) = .ok (.int (i % 6)) := fun i => q_sMod (by decide)
  have e2 : ∀ i : Int, sMod (.int i) (.int 10) = .ok (.int (i % 10)) := fun i => q_sMod (by decide)
  have e3 : ∀ i : Int, sMod (.int i) (.int 40) = .ok (.int (i % 40)) := fun i => q_sMod (by decide)
  have f0 : ∀ i : Int, sDiv (.int i) (.int 10) = .ok (.int (i / 10)) := fun i => dv_ok _ _ (by decide) (by unfold Sm; omega)
  have f1 : ∀ i : Int, sDiv (.int i) (.int 400) = .ok (.int (i / 400)) := fun i => dv_ok _ _ (by decide) (by unfold Sm; omega)
  have f2 : ∀ i : Int, sDiv (.int i) (.int 1600) = .ok (.int (i / 1600)) := fun i => dv_ok _ _ (by decide) (by unfold Sm; omega)
  by_cases h0 : n / 1600 % 6 = 0
  · refine ⟨(0, n / 10 % 40, 1 + n / 400 % 4), ?_, ?_⟩
    · constructor <;> dsimp only <;> omega
    · simp [h0, pd, ix, m1, m2, e0, e1, e2, e3, f0, f1, f2]
  · by_cases h1 : n / 1600 % 6 = 1
    · refine ⟨(n % 10, 0, 1 + n / 400 % 4), ?_, ?_⟩
      · constructor <;> dsimp only <;> omega
      · simp [h1, pd, ix, m1, m2, e0, e1, e2, e3, f0, f1, f2]
    · refine ⟨(n % 10, n / 10 % 40, 1 + n / 400 % 4), ?_, ?_⟩
      · constructor <;> dsimp only <;> omega
      · simp [h0, h1, pd, ix, m1, m2, e0, e1, e2, e3, f0, f1, f2]
theorem period2 (n : Int) : ∃ x, Good x ∧ f_law_period [.int n, .int 2] = .ok (pd x) := by
  rw [u_law_period]
  unfold g_law_period
  have ix : sIx (.list [.tuple [.int 4, .int 8, .int 2], .tuple [.int 10, .int 40, .int 4], .tuple [.int 61, .int 301, .int 9], .tuple [.int 1000000, .int 1000000000, .int 1000], .tuple [.int 7, .int 30, .int 3]]) (.int 2) = .ok (.tuple [.int 61, .int 301, .int 9]) := rfl
  have m1 : sMul (.int 61) (.int 301) = .ok (.int 18361) := mul_ok (a := 100) (b := 100) (by unfold Sm; omega) (by unfold Sm; omega)
  have m2 : sMul (.int 18361) (.int 9) = .ok (.int 165249) := mul_ok (a := 100) (b := 100) (by unfold Sm; omega) (by unfold Sm; omega)
  have e0 : ∀ i : Int, sMod (.int i) (.int 6) = .ok (.int (i % 6)) := fun i => q_sMod (by decide)
  have e1 : ∀ i : Int, sMod (.int i) (.int 9) = .ok (.int (i % 9)) := fun i => q_sMod (by decide)
  have e2 : ∀ i : Int, sMod (.int i) (.int 61) = .ok (.int (i % 61)) := fun i => q_sMod (by decide)
  have e3 : ∀ i : Int, sMod (.int i) (.int 301) = .ok (.int (i % 301)) := fun i => q_sMod (by decide)
  have f0 : ∀ i : Int, sDiv (.int i) (.int 61) = .ok (.int (i / 61)) := fun i => dv_ok _ _ (by decide) (by unfold Sm; omega)
  have f1 : ∀ i : Int, sDiv (.int i) (.int 18361) = .ok (.int (i / 18361)) := fun i => dv_ok _ _ (by decide) (by unfold Sm; omega)
  have f2 : ∀ i : Int, sDiv (.int i) (.int 165249) = .ok (.int (i / 165249)) := fun i => dv_ok _ _ (by decide) (by unfold Sm; omega)
  by_cases h0 : n / 165249 % 6 = 0
  · refine ⟨(0, n / 61 % 301, 1 + n / 18361 % 9), ?_, ?_⟩
    · constructor <;> dsimp only <;> omega
    · simp [h0, pd, ix, m1, m2, e0, e1, e2, e3, f0, f1, f2]
  · by_cases h1 : n / 165249 % 6 = 1
    · refine ⟨(n % 61, 0, 1 + n / 18361 % 9), ?_, ?_⟩
      · constructor <;> dsimp only <;> omega
      · simp [h1, pd, ix, m1, m2, e0, e1, e2, e3, f0, f1, f2]
    · refine ⟨(n % 61, n / 61 % 301, 1 + n / 18361 % 9), ?_, ?_⟩
      · constructor <;> dsimp only <;> omega
      · simp [h0, h1, pd, ix, m1, m2, e0, e1, e2, e3, f0, f1, f2]
theorem period3 (n : Int) : ∃ x, Good x ∧ f_law_period [.int n, .int 3] = .ok (pd x) := by
  rw [u_law_period]
  unfold g_law_period
  have ix : sIx (.list [.tuple [.int 4, .int 8, .int 2], .tuple [.int 10, .int 40, .int 4], .tuple [.int 61, .int 301, .int 9], .tuple [.int 1000000, .int 1000000000, .int 1000], .tuple [.int 7, .int 30, .int 3]]) (.int 3) = .ok (.tuple [.int 1000000, .int 1000000000, .int 1000]) := rfl
  have m1 : sMul (.int 1000000) (.int 1000000000) = .ok (.int 1000000000000000) := mul_ok (a := 100) (b := 100) (by unfold Sm; omega) (by unfold Sm; omega)
  have m2 : sMul (.int 1000000000000000) (.int 1000) = .ok (.int 1000000000000000000) := mul_ok (a := 100) (b := 100) (by unfold Sm; omega) (by unfold Sm; omega)
  have e0 : ∀ i : Int, sMod (.int i) (.int 6) = .ok (.int (i % 6)) := fun i => q_sMod (by decide)
  have e1 : ∀ i : Int, sMod (.int i) (.int 1000) = .ok (.int (i % 1000)) := fun i => q_sMod (by decide)
  have e2 : ∀ i : Int, sMod (.int i) (.int 1000000) = .ok (.int (i % 1000000)) := fun i => q_sMod (by decide)
  have e3 : ∀ i : Int, sMod (.int i) (.int 1000000000) = .ok (.int (i % 1000000000)) := fun i => q_sMod (by decide)
  have f0 : ∀ i : Int, sDiv (.int i) (.int 1000000) = .ok (.int (i / 1000000)) := fun i => dv_ok _ _ (by decide) (by unfold Sm; omega)
  have f1 : ∀ i : Int, sDiv (.int i) (.int 1000000000000000) = .ok (.int (i / 1000000000000000)) := fun i => dv_ok _ _ (by decide) (by unfold Sm; omega)
  have f2 : ∀ i : Int, sDiv (.int i) (.int 1000000000000000000) = .ok (.int (i / 1000000000000000000)) := fun i => dv_ok _ _ (by decide) (by unfold Sm; omega)
  by_cases h0 : n / 1000000000000000000 % 6 = 0
  · refine ⟨(0, n / 1000000 % 1000000000, 1 + n / 1000000000000000 % 1000), ?_, ?_⟩
    · constructor <;> dsimp only <;> omega
    · simp [h0, pd, ix, m1, m2, e0, e1, e2, e3, f0, f1, f2]
  · by_cases h1 : n / 1000000000000000000 % 6 = 1
    · refine ⟨(n % 1000000, 0, 1 + n / 1000000000000000 % 1000), ?_, ?_⟩
      · constructor <;> dsimp only <;> omega
      · simp [h1, pd, ix, m1, m2, e0, e1, e2, e3, f0, f1, f2]
    · refine ⟨(n % 1000000, n / 1000000 % 1000000000, 1 + n / 1000000000000000 % 1000), ?_, ?_⟩
      · constructor <;> dsimp only <;> omega
      · simp [h0, h1, pd, ix, m1, m2, e0, e1, e2, e3, f0, f1, f2]
theorem period4 (n : Int) : ∃ x, Good x ∧ f_law_period [.int n, .int 4] = .ok (pd x) := by
  rw [u_law_period]
  unfold g_law_period
  have ix : sIx (.list [.tuple [.int 4, .int 8, .int 2], .tuple [.int 10, .int 40, .int 4], .tuple [.int 61, .int 301, .int 9], .tuple [.int 1000000, .int 1000000000, .int 1000], .tuple [.int 7, .int 30, .int 3]]) (.int 4) = .ok (.tuple [.int 7, .int 30, .int 3]) := rfl
  have m1 : sMul (.int 7) (.int 30) = .ok (.int 210) := mul_ok (a := 100) (b := 100) (by unfold Sm; omega) (by unfold Sm; omega)
  have m2 : sMul (.int 210) (.int 3) = .ok (.int 630) := mul_ok (a := 100) (b := 100) (by unfold Sm; omega) (by unfold Sm; omega)
  have e0 : ∀ i : Int, sMod (.int i) (.int 3) = .ok (.int (i % 3)) := fun i => q_sMod (by decide)
  have e1 : ∀ i : Int, sMod (.int i) (.int 6) = .ok (.int (i % 6)) := fun i => q_sMod (by decide)
  have e2 : ∀ i : Int, sMod (.int i) (.int 7) = .ok (.int (i % 7)) := fun i => q_sMod (by decide)
  have e3 : ∀ i : Int, sMod (.int i) (.int 30) = .ok (.int (i % 30)) := fun i => q_sMod (by decide)
  have f0 : ∀ i : Int, sDiv (.int i) (.int 7) = .ok (.int (i / 7)) := fun i => dv_ok _ _ (by decide) (by unfold Sm; omega)
  have f1 : ∀ i : Int, sDiv (.int i) (.int 210) = .ok (.int (i / 210)) := fun i => dv_ok _ _ (by decide) (by unfold Sm; omega)
  have f2 : ∀ i : Int, sDiv (.int i) (.int 630) = .ok (.int (i / 630)) := fun i => dv_ok _ _ (by decide) (by unfold Sm; omega)
  have k1 : ∀ i : Int, sMul (.int (i % 7)) (.int 1000000000000) = .ok (.int (i % 7 * 1000000000000)) := fun i => mul_ok (a := 100) (b := 100) (by unfold Sm; omega) (by unfold Sm; omega)
  have k2 : ∀ i : Int, sMul (.int (i % 30)) (.int 1000000000000000000000) = .ok (.int (i % 30 * 1000000000000000000000)) := fun i => mul_ok (a := 100) (b := 100) (by unfold Sm; omega) (by unfold Sm; omega)
  have k3 : ∀ i : Int, sMul (.int (1 + i % 3)) (.int 1000000000) = .ok (.int ((1 + i % 3) * 1000000000)) := fun i => mul_ok (a := 100) (b := 100) (by unfold Sm; omega) (by unfold Sm; omega)
  have k4 : ∀ j : Int, Sm 100 j → sMul (.int 0) (.int j) = .ok (.int (0 * j)) := fun j h => mul_ok (a := 100) (b := 100) (by unfold Sm; omega) h
  have k5 := k4 1000000000000 (by unfold Sm; omega)
  have k6 := k4 1000000000000000000000 (by unfold Sm; omega)
  by_cases h0 : n / 630 % 6 = 0
  · refine ⟨(0 * 1000000000000, n / 7 % 30 * 1000000000000000000000, (1 + n / 210 % 3) * 1000000000), ?_, ?_⟩
    · constructor <;> dsimp only <;> omega
    · simp [h0, pd, ix, m1, m2, e0, e1, e2, e3, f0, f1, f2, k1, k2, k3, k5, k6]
  · by_cases h1 : n / 630 % 6 = 1
    · refine ⟨(n % 7 * 1000000000000, 0 * 1000000000000000000000, (1 + n / 210 % 3) * 1000000000), ?_, ?_⟩
      · constructor <;> dsimp only <;> omega
      · simp [h1, pd, ix, m1, m2, e0, e1, e2, e3, f0, f1, f2, k1, k2, k3, k5, k6]
    · refine ⟨(n % 7 * 1000000000000, n / 7 % 30 * 1000000000000000000000, (1 + n / 210 % 3) * 1000000000), ?_, ?_⟩
      · constructor <;> dsimp only <;> omega
      · simp [h0, h1, pd, ix, m1, m2, e0, e1, e2, e3, f0, f1, f2, k1, k2, k3, k5, k6]
theorem period_is (n sc : Int) (h0 : 0 ≤ sc) (h5 : sc ≤ 5) : ∃ x, Good x ∧ f_law_period [.int n, .int sc] = .ok (pd x) := by
  have : sc = 0 ∨ sc = 1 ∨ sc = 2 ∨ sc = 3 ∨ sc = 4 ∨ sc = 5 := by omega
  rcases this with rfl | rfl | rfl | rfl | rfl | rfl
  · exact period0 n
  · exact period1 n
  · exact period2 n
  · exact period3 n
  · exact period4 n
  · exact period5 n
end Lw

namespace Lw
open PySem Ct L2
theorem comp_ex {α : Type} {tg : Tg} {e : Rho → Rs D} {ρ : Rho} (p : α → D) (P : α → Prop) : ∀ (ds : List D), (∀ d ∈ ds, ∃ ρ1 x, tg d ρ = .ok ρ1 ∧ e ρ1 = .ok (p x) ∧ P x) → ∃ l : List α, l.length = ds.length ∧ (∀ x ∈ l, P x) ∧ compS tg fYes e ρ ds = .ok (l.map p)
  | [], _ => ⟨[], rfl, fun _ h => (nomatch h), rfl⟩
  | d :: ds, h => by
    obtain ⟨ρ1, x, e1, e2, hx⟩ := h d List.mem_cons_self
    obtain ⟨l, h1, h2, h3⟩ := comp_ex p P ds fun d hd => h d (List.mem_cons_of_mem _ hd)
    refine ⟨x :: l, by simp [h1], fun y hy => ?_, ?_⟩
    · rcases List.mem_cons.mp hy with rfl | hy
      · exact hx
      · exact h2 y hy
    · simp only [compS, e1, fYes, e2, h3, Rs.bind_ok, List.map_cons]
theorem comp_mp {α : Type} {tg : Tg} {e : Rho → Rs D} {ρ : Rho} (p q : α → D) : ∀ (l : List α), (∀ x ∈ l, ∃ ρ1, tg (p x) ρ = .ok ρ1 ∧ e ρ1 = .ok (q x)) → compS tg fYes e ρ (l.map p) = .ok (l.map q)
  | [], _ => rfl
  | x :: l, h => by
    obtain ⟨ρ1, e1, e2⟩ := h x List.mem_cons_self
    have h3 := comp_mp p q l fun d hd => h d (List.mem_cons_of_mem _ hd)
    simp only [compS, e1, fYes, e2, h3, Rs.bind_ok, List.map_cons]
theorem rng_mem {j : Int} {d : D} (h : d ∈ rngD 0 j) : ∃ i : Nat, d = .int (i : Int) ∧ (i : Int) < j := by
  obtain ⟨i, e⟩ := List.getElem?_of_mem h
  exact ⟨i, rng_at e⟩
theorem periods_is (ns : List Int) (st ct sc : Int) (h1 : 0 ≤ st) (h2 : st ≤ 400) (h0 : 0 ≤ ct) (h3 : ct ≤ 400) (h4 : 0 ≤ sc) (h5 : sc ≤ 5) : ∃ l, l.length = ct.toNat ∧ (∀ x ∈ l, Good x) ∧ f_law_periods [scriptD ns, .int st, .int ct, .int sc] = .ok (rowsD l) := by
  rw [u_law_periods]
  unfold g_law_periods c_law_periods_1
  obtain ⟨l, e1, e2, e3⟩ := comp_ex (tg := tgN 4) (e := fCall f_law_period (aCons (fCall f_law_number (aCons (fV 0) (aCons (fBin sAdd (fV 1) (fV 4)) aNil))) (aCons (fV 3) aNil))) (ρ := [.va (scriptD ns), .va (.int st), .va (.int ct), .va (.int sc), .un]) pd Good (rngD 0 ct) fun d hd => by
    obtain ⟨i, rfl, hi⟩ := rng_mem hd
    obtain ⟨c, hc, ec⟩ := number_is ns (st + i) (by omega) (by omega)
    obtain ⟨x, hx, ex⟩ := period_is c sc h4 h5
    exact ⟨_, x, rfl, by simp [ec, ex], hx⟩
  refine ⟨l, by rw [e1, rng_len], e2, ?_⟩
  have hz : (rngD 0 ct).length ≤ sizeLine := by rw [rng_len]; exact le_size (by omega)
  have hr := rg1_ok (j := ct) (by omega) (by omega)
  have ew : wipeR [.va (scriptD ns), .va (.int st), .va (.int ct), .va (.int sc), .un] [4] = [.va (scriptD ns), .va (.int st), .va (.int ct), .va (.int sc), .un] := rfl
  have hz' : ct.toNat ≤ sizeLine := le_size (by omega)
  simp [fComp, hr, ew, e3, hz', rowsD]
theorem shape_is (ns : List Int) (mo : Int) (hm : 5 ≤ mo) : ∃ sc kn la : Int, 0 ≤ sc ∧ sc ≤ 5 ∧ 1 ≤ kn ∧ 0 ≤ la ∧ (kn + la ≤ 9 ∨ kn + la ≤ mo) ∧ f_law_shape [scriptD ns, .int mo] = .ok (.tuple [.int sc, .int kn, .int la]) := by
  obtain ⟨c, hc, e⟩ := cell_is ns 0 (by omega)
  rw [u_law_shape]
  unfold g_law_shape
  have d1 : ∀ i : Int, sDiv (.int i) (.int 6) = .ok (.int (i / 6)) := fun i => dv_ok _ _ (by decide) (by unfold Sm; omega)
  have d2 : ∀ i : Int, sDiv (.int i) (.int 4) = .ok (.int (i / 4)) := fun i => dv_ok _ _ (by decide) (by unfold Sm; omega)
  have d3 : ∀ i : Int, sDiv (.int i) (.int 24) = .ok (.int (i / 24)) := fun i => dv_ok _ _ (by decide) (by unfold Sm; omega)
  have m1 : ∀ i : Int, sMod (.int i) (.int 6) = .ok (.int (i % 6)) := fun i => q_sMod (by decide)
  have m2 : ∀ i : Int, sMod (.int i) (.int 4) = .ok (.int (i % 4)) := fun i => q_sMod (by decide)
  by_cases h : c / 6 % 4 = 3 ∧ (8 : Int) < (ns.length : Int)
  · have m3 : ∀ i : Int, sMod (.int i) (.int (min ((ns.length : Int) - 4) mo)) = .ok (.int (i % (min ((ns.length : Int) - 4) mo))) := fun i => q_sMod (by omega)
    generalize ht : (min ((ns.length : Int) - 4) mo) = t at m3
    have t5 : 5 ≤ t ∧ t ≤ mo := by omega
    have b1 := Int.emod_nonneg (c / 6 / 4) (show t ≠ 0 by omega)
    have b2 := Int.emod_lt_of_pos (c / 6 / 4) (show 0 < t by omega)
    refine ⟨c % 6, 1 + c / 6 / 4 % t, t - (1 + c / 6 / 4 % t), by omega, by omega, by omega, by omega, .inr (by omega), ?_⟩
    have h8 : (8 : Int) < (ns.length : Int) := h.2
    have h8' : 8 < ns.length := by omega
    simp [e, d1, d2, d3, m1, m2, h.1, h8, ht, m3]
  · refine ⟨c % 6, 1 + c / 6 / 4 % 6, c / 6 / 24 % 4, by omega, by omega, by omega, by omega, .inl (by omega), ?_⟩
    by_cases h1 : c / 6 % 4 = 3
    · have h8' : ¬ 8 < ns.length := fun z => h ⟨h1, by omega⟩
      have h8 : ¬ (8 : Int) < (ns.length : Int) := fun z => h ⟨h1, z⟩
      simp [e, d1, d2, d3, m1, m2, h1, h8]
    · simp [e, d1, d2, d3, m1, m2, h1]
end Lw

namespace Lw
open PySem Ct L2
abbrev Per := Int × Int × Int
structure Gd (x : Per) : Prop where
  d0 : 0 ≤ x.1
  s0 : 0 ≤ x.2.1
  h1 : 1 ≤ x.2.2
  db : x.1 ≤ 1000000 * BC
  hb : x.2.2 ≤ BB
def Sml (l : List Per) : Prop := ∀ x ∈ l, x.1 ≤ BB ∧ x.2.1 ≤ BB
theorem Sml.of {l : List Per} (h : ∀ x ∈ l, Good x) : Sml l := fun x hx => by
  have := (h x hx).db
  have := (h x hx).sb
  have := BB_le 60
  exact ⟨by omega, by omega⟩
theorem Sml.tail {x : Per} {l : List Per} (h : Sml (x :: l)) : Sml l := fun y hy => h y (List.mem_cons_of_mem _ hy)
theorem Sml.take {l : List Per} (h : Sml l) (k : Nat) : Sml (l.take k) := fun y hy => h y (List.mem_of_mem_take hy)
theorem Sml.drop {l : List Per} (h : Sml l) (k : Nat) : Sml (l.drop k) := fun y hy => h y (List.mem_of_mem_drop hy)
theorem Sml.app {l m : List Per} (h : Sml l) (h2 : Sml m) : Sml (l ++ m) := fun y hy => by
  rcases List.mem_append.mp hy with z | z
  · exact h y z
  · exact h2 y z
theorem Good.gd {x : Per} (h : Good x) : Gd x := by
  obtain ⟨h1, h2, h3, h4, h5, h6⟩ := h
  have := BB_le 60
  have := BC_big
  exact ⟨h1, h2, h3, by omega, by omega⟩
def Gds (l : List Per) : Prop := ∀ x ∈ l, Gd x
theorem Gds.of {l : List Per} (h : ∀ x ∈ l, Good x) : Gds l := fun x hx => (h x hx).gd
theorem Gds.tail {x : Per} {l : List Per} (h : Gds (x :: l)) : Gds l := fun y hy => h y (List.mem_cons_of_mem _ hy)
theorem Gds.head {x : Per} {l : List Per} (h : Gds (x :: l)) : Gd x := h x List.mem_cons_self
theorem Gds.take {l : List Per} (h : Gds l) (k : Nat) : Gds (l.take k) := fun y hy => h y (List.mem_of_mem_take hy)
theorem Gds.drop {l : List Per} (h : Gds l) (k : Nat) : Gds (l.drop k) := fun y hy => h y (List.mem_of_mem_drop hy)
theorem Gds.app {l m : List Per} (h : Gds l) (h2 : Gds m) : Gds (l ++ m) := fun y hy => by
  rcases List.mem_append.mp hy with z | z
  · exact h y z
  · exact h2 y z
theorem Gds.at {l : List Per} (h : Gds l) {k : Nat} {x : Per} (e : l[k]? = some x) : Gd x := h x (List.mem_of_getElem? e)
def intsL (o : List Int) : D := .list (o.map PyData.int)
@[simp] theorem len_ints (o : List Int) : sLen (intsL o) = .ok (.int (o.length : Int)) := by simp [intsL]
@[simp] theorem lst_ints (o : List Int) : sList (intsL o) = .ok (intsL o) := by simp [intsL]
@[simp] theorem kl_ints (o : List Int) : kLst (intsL o) = .ok (o.map PyData.int) := id rfl
@[simp] theorem kl_rows (l : List Per) : kLst (rowsD l) = .ok (l.map pd) := id rfl
@[simp] theorem ke_ints (o : List Int) : kEnu (intsL o) = .ok (enumD 0 (o.map PyData.int)) := id rfl
@[simp] theorem ke_rows (l : List Per) : kEnu (rowsD l) = .ok (enumD 0 (l.map pd)) := id rfl
@[simp] theorem ko_ints (i : Nat) (ρ : Rho) (o : List Int) : kOwn i ρ (intsL o) = .nx (ρ.set i (.ow (o.map PyData.int))) := id rfl
@[simp] theorem ko_rows (i : Nat) (ρ : Rho) (o : List Per) : kOwn i ρ (rowsD o) = .nx (ρ.set i (.ow (o.map pd))) := id rfl
@[simp] theorem ints_f (o : List Int) : PyData.list (o.map PyData.int) = intsL o := id rfl
@[simp] theorem rows_f (o : List Per) : PyData.list (o.map pd) = rowsD o := id rfl
def PlN : Nat → D → Prop
  | _, .none => True
  | _, .bool _ => True
  | _, .int _ => True
  | 0, _ => False
  | n + 1, .list ds => ds.length ≤ 1000 ∧ ∀ d ∈ ds, PlN n d
  | n + 1, .tuple ds => ds.length ≤ 1000 ∧ ∀ d ∈ ds, PlN n d
  | _, _ => False
theorem PlN.up : ∀ {n : Nat} {d : D}, PlN n d → PlN (n + 1) d
  | _, .none, _ => by simp [PlN]
  | _, .bool _, _ => by simp [PlN]
  | _, .int _, _ => by simp [PlN]
  | 0, .list _, h => by simp [PlN] at h
  | 0, .tuple _, h => by simp [PlN] at h
  | 0, .str _, h => by simp [PlN] at h
  | 0, .dict _, h => by simp [PlN] at h
  | n + 1, .list ds, h => by
    simp only [PlN] at h ⊢
    exact ⟨h.1, fun d hd => (h.2 d hd).up⟩
  | n + 1, .tuple ds, h => by
    simp only [PlN] at h ⊢
    exact ⟨h.1, fun d hd => (h.2 d hd).up⟩
  | n + 1, .str _, h => by simp [PlN] at h
  | n + 1, .dict _, h => by simp [PlN] at h
theorem PlN.le {n m : Nat} {d : D} (h : PlN n d) (le : n ≤ m) : PlN m d := by
  induction le with
  | refl => exact h
  | step _ ih => exact ih.up
theorem same_int (n : Nat) (i : Int) : h_law_same (n + 1) [.int i, .int i] = .ok (.bool true) := by
  rw [u_law_same]
  unfold g_law_same
  simp
theorem same_bool (n : Nat) (i : Bool) : h_law_same (n + 1) [.bool i, .bool i] = .ok (.bool true) := by
  rw [u_law_same]
  unfold g_law_same
  have : sEq (.bool i) (.bool i) = .ok (.bool true) := by cases i <;> rfl
  simp [this]
theorem same_none (n : Nat) : h_law_same (n + 1) [.none, .none] = .ok (.bool true) := by
  rw [u_law_same]
  unfold g_law_same
  simp
theorem same_loop (n : Nat) (x : D) (ds : List D) (hx : ∀ (i : Nat) d, ds[i]? = some d → sIx x (.int (i : Int)) = .ok d) (h : ∀ d ∈ ds, h_law_same n [d, d] = .ok (.bool true)) (s : Sl) :
    ∃ s', loopS (tgN 2) (fIf (fNot (toB (fCall (h_law_same n) (aCons (fBin sIx (fV 0) (fV 2)) (aCons (fBin sIx (fV 1) (fV 2)) aNil))))) (fRet (fC (.bool false))) fSkip) (rngD 0 (ds.length : Int)) [.va x, .va x, s] = .nx [.va x, .va x, s'] := by
  obtain ⟨ρ', e, s', rfl⟩ := loop_inv (tg := tgN 2) (body := fIf (fNot (toB (fCall (h_law_same n) (aCons (fBin sIx (fV 0) (fV 2)) (aCons (fBin sIx (fV 1) (fV 2)) aNil))))) (fRet (fC (.bool false))) fSkip) (fun _ ρ => ∃ s', ρ = [.va x, .va x, s']) (rngD 0 (ds.length : Int)) 0 [.va x, .va x, s] ⟨s, rfl⟩ fun i d ρ e hI => by
    obtain ⟨s', rfl⟩ := hI
    obtain ⟨rfl, hi⟩ := rng_at e
    have hl : i < ds.length := by omega
    have e1 := hx i ds[i] (List.getElem?_eq_getElem hl)
    have e2 := h ds[i] (List.getElem_mem hl)
    refine ⟨_, [.va x, .va x, .va (.int i)], rfl, .inl ?_, _, rfl⟩
    simp [e1, e2]
  exact ⟨s', e⟩
theorem same_list (n : Nat) (ds : List D) (hl : ds.length ≤ 1000) (h : ∀ d ∈ ds, h_law_same n [d, d] = .ok (.bool true)) : h_law_same (n + 1) [.list ds, .list ds] = .ok (.bool true) := by
  obtain ⟨s', e⟩ := same_loop n (.list ds) ds (fun i d hd => ix_list (by omega) (by simpa using hd)) h .un
  rw [u_law_same]
  unfold g_law_same
  have r := rg1_len ds.length hl
  simp [r, e]
theorem same_tup (n : Nat) (ds : List D) (hl : ds.length ≤ 1000) (h : ∀ d ∈ ds, h_law_same n [d, d] = .ok (.bool true)) : h_law_same (n + 1) [.tuple ds, .tuple ds] = .ok (.bool true) := by
  obtain ⟨s', e⟩ := same_loop n (.tuple ds) ds (fun i d hd => ix_tup (by omega) (by simpa using hd)) h .un
  rw [u_law_same]
  unfold g_law_same
  have r := rg1_len ds.length hl
  simp [r, e]
theorem same_refl : ∀ (n : Nat) (d : D), PlN n d → h_law_same (n + 1) [d, d] = .ok (.bool true)
  | n, .none, _ => same_none n
  | n, .bool b, _ => same_bool n b
  | n, .int i, _ => same_int n i
  | 0, .list _, h => by simp [PlN] at h
  | 0, .tuple _, h => by simp [PlN] at h
  | 0, .str _, h => by simp [PlN] at h
  | 0, .dict _, h => by simp [PlN] at h
  | n + 1, .list ds, h => by
    simp only [PlN] at h
    exact same_list _ ds h.1 fun d hd => same_refl n d (h.2 d hd)
  | n + 1, .tuple ds, h => by
    simp only [PlN] at h
    exact same_tup _ ds h.1 fun d hd => same_refl n d (h.2 d hd)
  | n + 1, .str _, h => by simp [PlN] at h
  | n + 1, .dict _, h => by simp [PlN] at h
theorem same_pl {d : D} (n : Nat) (h : PlN n d) (hn : n ≤ 8 := by decide) : f_law_same [d, d] = .ok (.bool true) := same_refl 8 d (h.le hn)
theorem pl_pd (x : Per) : PlN 1 (pd x) := by simp [pd, PlN]
theorem pl_ints (o : List Int) (h : o.length ≤ 1000) : PlN 1 (intsL o) := by
  simp only [PlN, intsL, List.length_map]
  refine ⟨h, fun d hd => ?_⟩
  obtain ⟨x, _, rfl⟩ := List.mem_map.mp hd
  simp [PlN]
theorem pl_rows (l : List Per) (h : l.length ≤ 1000) : PlN 2 (rowsD l) := by
  simp only [PlN, rowsD, List.length_map]
  refine ⟨h, fun d hd => ?_⟩
  obtain ⟨x, _, rfl⟩ := List.mem_map.mp hd
  exact pl_pd x
theorem same_rows (l : List Per) (hl : l.length ≤ 1000) : f_law_same [rowsD l, rowsD l] = .ok (.bool true) := same_pl 2 (pl_rows l hl)
theorem check_loop (R : D) : ∀ (l : List Per) (k : Nat) (s2 s3 s4 s5 : Sl), Gds l → ∃ t2 t3 t4 t5, loopS (tgT [(tgN 2), (tgT [(tgN 3), (tgN 4), (tgN 5)])])
  b_check_periods_1 (enumD k (l.map pd)) [.va R, .va .none, s2, s3, s4, s5] = .nx [.va R, .va .none, t2, t3, t4, t5]
  | [], k, s2, s3, s4, s5, _ => ⟨s2, s3, s4, s5, rfl⟩
  | x :: l, k, s2, s3, s4, s5, h => by
    have hx := h x List.mem_cons_self
    obtain ⟨t2, t3, t4, t5, e⟩ := check_loop R l (k + 1) (.va (.int k)) (.va (.int x.1)) (.va (.int x.2.1)) (.va (.int x.2.2)) h.tail
    refine ⟨t2, t3, t4, t5, ?_⟩
    rw [← e]
    have a1 : ¬ x.1 < 0 := by have := hx.d0; omega
    have a2 : ¬ x.2.1 < 0 := by have := hx.s0; omega
    have a3 : ¬ x.2.2 < 1 := by have := hx.h1; omega
    simp [loopS, enumD, b_check_periods_1, pd, a1, a2, a3]
theorem check_ok (l : List Per) (h : Gds l) : f_check_periods [rowsD l, .none] = .ok .none := by
  rw [u_check_periods]
  unfold g_check_periods
  obtain ⟨t2, t3, t4, t5, e⟩ := check_loop (rowsD l) l 0 .un .un .un .un h
  simp [e]
@[simp] theorem len_rows (l : List Per) : sLen (rowsD l) = .ok (.int (l.length : Int)) := by simp [rowsD, -rows_f]
@[simp] theorem lst_rows (l : List Per) : sList (rowsD l) = .ok (rowsD l) := by simp [rowsD, -rows_f]
theorem row_at {l : List Per} {k : Nat} {x : Per} (h : l[k]? = some x) : sIx (rowsD l) (.int (k : Int)) = .ok (pd x) := ix_map h
@[simp] theorem pd_0 (x : Per) : sIx (pd x) (.int 0) = .ok (.int x.1) := id rfl
@[simp] theorem pd_1 (x : Per) : sIx (pd x) (.int 1) = .ok (.int x.2.1) := id rfl
@[simp] theorem pd_2 (x : Per) : sIx (pd x) (.int 2) = .ok (.int x.2.2) := id rfl
def dsum (l : List Per) : Int := (l.map (·.1)).sum
@[simp] theorem dsum_nil : dsum [] = 0 := id rfl
@[simp] theorem dsum_cons (x : Per) (l : List Per) : dsum (x :: l) = x.1 + dsum l := by
  show (x.1 :: l.map (·.1)).sum = _
  rw [List.sum_cons]
  rfl
theorem dsum_app (l m : List Per) : dsum (l ++ m) = dsum l + dsum m := by
  induction l with
  | nil => simp
  | cons x l ih => rw [List.cons_append, dsum_cons, dsum_cons, ih]; omega
theorem dsum_nn : ∀ (l : List Per), Gds l → 0 ≤ dsum l
  | [], _ => Int.le_refl _
  | x :: l, h => by
    have := dsum_nn l h.tail
    have h1 := h.head.d0
    rw [dsum_cons]
    omega
theorem dsum_big : ∀ (l : List Per), Gds l → dsum l ≤ (l.length : Int) * (1000000 * BC)
  | [], _ => by simp
  | x :: l, h => by
    have := dsum_big l h.tail
    have hx := h.head.db
    rw [dsum_cons, List.length_cons, Int.natCast_add, Int.add_mul]
    omega
theorem dsum_le (l : List Per) (h : Gds l) (n : Nat) (hl : l.length ≤ n) : dsum l ≤ n * (1000000 * BC) := by
  have h1 := dsum_big l h
  have h2 : (l.length : Int) * (1000000 * BC) ≤ n * (1000000 * BC) := Int.mul_le_mul_of_nonneg_right (by omega) (by have := BB_pos; have := BC_big; omega)
  omega
theorem dsum_sm : ∀ (l : List Per), Sml l → dsum l ≤ (l.length : Int) * BB
  | [], _ => by simp
  | x :: l, h => by
    have := dsum_sm l h.tail
    have hx := (h x List.mem_cons_self).1
    rw [dsum_cons, List.length_cons, Int.natCast_add, Int.add_mul]
    omega
theorem mul_BB {a b : Nat} (h : a ≤ b) : (a : Int) * BB ≤ b * BB := Int.mul_le_mul_of_nonneg_right (by omega) (by have := BB_pos; omega)
theorem sum_ints (o : List Int) : sSum (intsL o) = .ok (.int o.sum) := by
  show (match intsD (o.map PyData.int) with | some ns => Rs.ok (PyData.int ns.sum) | none => Rs.stuck) = _
  rw [intsD_map]
theorem sum_mapI {α : Type} (f : α → Int) (l : List α) : sSum (.list (l.map fun x => PyData.int (f x))) = .ok (.int (l.map f).sum) := by
  have : (l.map fun x => PyData.int (f x)) = (l.map f).map PyData.int := by rw [List.map_map]; rfl
  rw [this]
  exact sum_ints _
theorem sum_dem (l : List Per) : sSum (.list (l.map fun x => PyData.int x.1)) = .ok (.int (dsum l)) := sum_mapI (fun x : Per => x.1) l
theorem comp_list {α : Type} {vs : List Nat} {f : Rho → Rs (List D)} {tg : Tg} {e : Rho → Rs D} {ρ ρ0 : Rho} (p q : α → D) (l : List α) (hl : l.length ≤ 1000) (hf : f ρ = .ok (l.map p)) (hw : wipeR ρ vs = ρ0) (h : ∀ x ∈ l, ∃ ρ1, tg (p x) ρ0 = .ok ρ1 ∧ e ρ1 = .ok (q x)) : fComp vs f tg fYes e ρ = .ok (.list (l.map q)) := by
  unfold fComp
  rw [hf, Rs.bind_ok, if_pos (by rw [List.length_map]; exact le_size hl), hw, comp_mp p q l h]
theorem cut_take {α : Type} (p : α → D) (l : List α) (k : Nat) : cutD (l.map p) none (some (k : Int)) = (l.take k).map p := by
  unfold cutD
  rw [HT.sIx_none, HT.sIx_nat, List.drop_zero, Nat.sub_zero, List.map_take]
  by_cases c : k ≤ (l.map p).length
  · rw [Nat.min_eq_left c]
  · rw [Nat.min_eq_right (by omega), List.take_of_length_le (Nat.le_refl _), List.take_of_length_le (by omega)]
theorem cut_drop {α : Type} (p : α → D) (l : List α) (k : Nat) : cutD (l.map p) (some (k : Int)) none = (l.drop k).map p := by
  unfold cutD
  rw [HT.sIx_none, HT.sIx_nat, List.map_drop]
  by_cases c : k ≤ (l.map p).length
  · rw [Nat.min_eq_left c, List.take_of_length_le (by rw [List.length_drop]; omega)]
  · rw [Nat.min_eq_right (by omega), Nat.sub_self, List.take_zero, List.drop_eq_nil_of_le (by omega)]
@[simp] theorem ks_t0 (l : List Per) (k : Nat) : kSlice (rowsD l) none (some (k : Int)) = .ok (rowsD (l.take k)) := by
  show Rs.ok (PyData.list (cutD (l.map pd) none (some (k : Int)))) = _
  rw [cut_take]; rfl
@[simp] theorem ks_d0 (l : List Per) (k : Nat) : kSlice (rowsD l) (some (k : Int)) none = .ok (rowsD (l.drop k)) := by
  show Rs.ok (PyData.list (cutD (l.map pd) (some (k : Int)) none)) = _
  rw [cut_drop]; rfl
@[simp] theorem ks_t1 (l : List Int) (k : Nat) : kSlice (intsL l) none (some (k : Int)) = .ok (intsL (l.take k)) := by
  show Rs.ok (PyData.list (cutD (l.map PyData.int) none (some (k : Int)))) = _
  rw [cut_take]; rfl
@[simp] theorem ks_d1 (l : List Int) (k : Nat) : kSlice (intsL l) (some (k : Int)) none = .ok (intsL (l.drop k)) := by
  show Rs.ok (PyData.list (cutD (l.map PyData.int) (some (k : Int)) none)) = _
  rw [cut_drop]; rfl
end Lw

namespace Lw
open PySem Ct L2
def capD : Option Int → D
  | none => .none
  | some c => .int c
end Lw

namespace Lw
open PySem Ct L2
def hc : List Per → Int → Int
  | [], _ => 0
  | x :: r, e => x.2.2 * (dsum r + e) + hc r e
def rt : List Per → Int
  | [] => 0
  | x :: r => x.2.2 + rt r
theorem hc_lin : ∀ (l : List Per) (e : Int), hc l e = hc l 0 + rt l * e
  | [], e => by simp [hc, rt]
  | x :: r, e => by
    have := hc_lin r e
    unfold hc rt
    rw [this]
    grind
theorem hc_snoc : ∀ (l : List Per) (p : Per) (e : Int), hc (l ++ [p]) e = hc l (p.1 + e) + p.2.2 * e
  | [], p, e => by simp [hc]
  | x :: r, p, e => by
    have := hc_snoc r p e
    rw [List.cons_append]
    unfold hc
    rw [this, dsum_app]
    simp only [dsum_cons, dsum_nil]
    grind
theorem hc_snoc0 (l : List Per) (p : Per) : hc (l ++ [p]) 0 = hc l 0 + rt l * p.1 := by
  rw [hc_snoc, hc_lin l (p.1 + 0)]
  simp
theorem rt_app : ∀ (l m : List Per), rt (l ++ m) = rt l + rt m
  | [], m => by simp [rt]
  | x :: l, m => by
    rw [List.cons_append, rt, rt, rt_app l m]
    omega
theorem rt_nn : ∀ (l : List Per), Gds l → 0 ≤ rt l
  | [], _ => Int.le_refl _
  | x :: l, h => by
    have := rt_nn l h.tail
    have := h.head.h1
    unfold rt
    omega
theorem rt_le (l : List Per) (h : Gds l) : rt l ≤ l.length * BB := by
  induction l with
  | nil => simp [rt]
  | cons x l ih =>
    have := ih h.tail
    have := h.head.hb
    rw [rt, List.length_cons, Int.natCast_add, Int.add_mul]
    omega
theorem hc_nn : ∀ (l : List Per) (e : Int), Gds l → 0 ≤ e → 0 ≤ hc l e
  | [], _, _, _ => Int.le_refl _
  | x :: l, e, h, he => by
    have := hc_nn l e h.tail he
    have h1 := h.head.h1
    have h2 := dsum_nn l h.tail
    have := Int.mul_nonneg (show 0 ≤ x.2.2 by omega) (show 0 ≤ dsum l + e by omega)
    unfold hc
    omega
abbrev P0 : Per := (0, 0, 0)
def setup (l : List Per) (j : Nat) : Int := (l.getD j P0).2.1
def dem (l : List Per) (j : Nat) : Int := (l.getD j P0).1
def seg (l : List Per) (j n : Nat) : List Per := (l.take n).drop j
def costs (l : List Per) : Nat → List Int
  | 0 => [0]
  | n + 1 => costs l n ++ [if dem l n = 0 then (costs l n).getD n 0 else lmin ((List.range (n + 1)).map fun j => (costs l n).getD j 0 + setup l j + hc (seg l j (n + 1)) 0)]
def C (l : List Per) (n : Nat) : Int := (costs l n).getD n 0
def V (l : List Per) (n j : Nat) (e : Int) : Int := C l j + setup l j + hc (seg l j n) e
theorem costs_len (l : List Per) : ∀ n, (costs l n).length = n + 1
  | 0 => rfl
  | n + 1 => by rw [costs, List.length_append, costs_len l n]; rfl
theorem costs_at (l : List Per) : ∀ (n j : Nat), j ≤ n → (costs l n)[j]? = some (C l j)
  | 0, 0, _ => rfl
  | n + 1, j, h => by
    by_cases e : j = n + 1
    · subst e
      unfold C
      rw [List.getD_eq_getElem?_getD]
      have : n + 1 < (costs l (n + 1)).length := by rw [costs_len]; omega
      rw [List.getElem?_eq_getElem this]
      rfl
    · have h2 := costs_at l n j (by omega)
      rw [costs, List.getElem?_append_left (by rw [costs_len]; omega)]
      exact h2
theorem costs_getD (l : List Per) (n j : Nat) (h : j ≤ n) : (costs l n).getD j 0 = C l j := by
  rw [List.getD_eq_getElem?_getD, costs_at l n j h]
  rfl
theorem costs_map (l : List Per) (n : Nat) : costs l n = (List.range (n + 1)).map (C l) := by
  refine List.ext_getElem? fun j => ?_
  by_cases h : j ≤ n
  · rw [costs_at l n j h, List.getElem?_map, List.getElem?_range (by omega)]
    rfl
  · rw [List.getElem?_eq_none (by rw [costs_len]; omega), List.getElem?_eq_none (by simp; omega)]
theorem C_zero (l : List Per) : C l 0 = 0 := rfl
theorem C_succ (l : List Per) (n : Nat) : C l (n + 1) = if dem l n = 0 then C l n else lmin ((List.range (n + 1)).map fun j => V l (n + 1) j 0) := by
  have e : (fun j => (costs l n).getD j 0 + setup l j + hc (seg l j (n + 1)) 0) = (fun j => (costs l n).getD j 0 + setup l j + hc (seg l j (n + 1)) 0) := rfl
  have : C l (n + 1) = (costs l n ++ [if dem l n = 0 then (costs l n).getD n 0 else lmin ((List.range (n + 1)).map fun j => (costs l n).getD j 0 + setup l j + hc (seg l j (n + 1)) 0)]).getD (n + 1) 0 := rfl
  rw [this, List.getD_eq_getElem?_getD, List.getElem?_append_right (by rw [costs_len]; omega), costs_len, Nat.sub_self]
  show (if dem l n = 0 then (costs l n).getD n 0 else _) = _
  rw [costs_getD l n n (Nat.le_refl _)]
  have : ((List.range (n + 1)).map fun j => (costs l n).getD j 0 + setup l j + hc (seg l j (n + 1)) 0) = (List.range (n + 1)).map fun j => V l (n + 1) j 0 := by
    refine List.map_congr_left fun j hj => ?_
    rw [costs_getD l n j (by have := List.mem_range.mp hj; omega)]
    rfl
  rw [this]
theorem C_z {l : List Per} {n : Nat} (h : dem l n = 0) : C l (n + 1) = C l n := by rw [C_succ, if_pos h]
theorem C_p {l : List Per} {n : Nat} (h : dem l n ≠ 0) : C l (n + 1) = lmin ((List.range (n + 1)).map fun j => V l (n + 1) j 0) := by rw [C_succ, if_neg h]
theorem lmin_map_le {n j : Nat} {f : Nat → Int} (h : j < n) : lmin ((List.range n).map f) ≤ f j := lmin_le (List.mem_map.mpr ⟨j, List.mem_range.mpr h, rfl⟩)
theorem lmin_map_at {n : Nat} {f : Nat → Int} (h : 0 < n) : ∃ j, j < n ∧ lmin ((List.range n).map f) = f j := by
  have hn : (List.range n).map f ≠ [] := by
    intro z
    have := congrArg List.length z
    simp at this
    omega
  obtain ⟨j, h1, h2⟩ := List.mem_map.mp (lmin_mem hn)
  exact ⟨j, List.mem_range.mp h1, h2.symm⟩
theorem seg_at {l : List Per} {k n : Nat} (h : k < n) (hn : n ≤ l.length) : seg l k n = l.getD k P0 :: seg l (k + 1) n := by
  unfold seg
  rw [List.drop_eq_getElem_cons (by rw [List.length_take]; omega)]
  congr 1
  rw [List.getElem_take, List.getD_eq_getElem?_getD, List.getElem?_eq_getElem (by omega)]
  rfl
theorem seg_nil {l : List Per} {n : Nat} : seg l n n = [] := by
  unfold seg
  exact List.drop_eq_nil_of_le (by rw [List.length_take]; omega)
theorem seg_snoc {l : List Per} {k n : Nat} (h : k ≤ n) (hn : n < l.length) : seg l k (n + 1) = seg l k n ++ [l.getD n P0] := by
  unfold seg
  rw [List.take_succ_eq_append_getElem hn, List.drop_append_of_le_length (by rw [List.length_take]; omega)]
  congr 2
  rw [List.getD_eq_getElem?_getD, List.getElem?_eq_getElem hn]
  rfl
theorem seg_all {l : List Per} {k : Nat} : seg l k l.length = l.drop k := by
  unfold seg
  rw [List.take_length]
theorem Gds.seg {l : List Per} (h : Gds l) (k n : Nat) : Gds (seg l k n) := (h.take n).drop k
theorem getD_at {l : List Per} {k : Nat} {x : Per} (h : l[k]? = some x) : l.getD k P0 = x := by
  rw [List.getD_eq_getElem?_getD, h]
  rfl
theorem at_getD {l : List Per} {k : Nat} (h : k < l.length) : l[k]? = some (l.getD k P0) := by
  rw [List.getD_eq_getElem?_getD, List.getElem?_eq_getElem h]
  rfl
theorem V_snoc {l : List Per} {k n : Nat} (h : k ≤ n) (hn : n < l.length) : V l (n + 1) k 0 = V l n k 0 + rt (seg l k n) * dem l n := by
  unfold V
  rw [seg_snoc h hn, hc_snoc0]
  unfold dem
  omega
theorem V_self (l : List Per) (k : Nat) : V l k k 0 = C l k + setup l k := by
  unfold V
  rw [seg_nil]
  simp [hc]
theorem V_lin (l : List Per) (n k : Nat) (e : Int) : V l n k e = V l n k 0 + rt (seg l k n) * e := by
  unfold V
  rw [hc_lin]
  omega
theorem setup_nn {l : List Per} (h : Gds l) (k : Nat) : 0 ≤ setup l k := by
  unfold setup
  by_cases hk : k < l.length
  · exact (h.at (at_getD hk)).s0
  · rw [List.getD_eq_getElem?_getD, List.getElem?_eq_none (by omega)]
    exact Int.le_refl 0
theorem dem_nn {l : List Per} (h : Gds l) (k : Nat) : 0 ≤ dem l k := by
  unfold dem
  by_cases hk : k < l.length
  · exact (h.at (at_getD hk)).d0
  · rw [List.getD_eq_getElem?_getD, List.getElem?_eq_none (by omega)]
    exact Int.le_refl 0
theorem C_le {l : List Per} (hg : Gds l) : ∀ (n j : Nat), n ≤ l.length → j < n → C l n ≤ V l n j 0
  | 0, j, _, h => by omega
  | n + 1, j, hn, h => by
    by_cases hd : dem l n = 0
    · rw [C_z hd]
      by_cases e : j = n
      · subst e
        rw [V_snoc (Nat.le_refl _) (by omega), V_self, hd]
        have := setup_nn hg j
        omega
      · rw [V_snoc (by omega) (by omega), hd]
        have := C_le hg n j (by omega) (by omega)
        omega
    · rw [C_p hd]
      exact lmin_map_le h
theorem C_at {l : List Per} {n : Nat} (hd : dem l n ≠ 0) : ∃ j, j ≤ n ∧ C l (n + 1) = V l (n + 1) j 0 := by
  rw [C_p hd]
  obtain ⟨j, h1, h2⟩ := lmin_map_at (f := fun j => V l (n + 1) j 0) (show 0 < n + 1 by omega)
  exact ⟨j, by omega, h2⟩
theorem C_nn {l : List Per} (hg : Gds l) : ∀ (n : Nat), n ≤ l.length → 0 ≤ C l n := by
  intro n
  induction n using Nat.strongRecOn with
  | ind n ih =>
    intro hn
    cases n with
    | zero => exact Int.le_refl _
    | succ n =>
      by_cases hd : dem l n = 0
      · rw [C_z hd]
        exact ih n (by omega) (by omega)
      · obtain ⟨j, h1, h2⟩ := C_at hd
        rw [h2]
        unfold V
        have := ih j (by omega) (by omega)
        have := setup_nn hg j
        have := hc_nn (seg l j (n + 1)) 0 (hg.seg _ _) (Int.le_refl _)
        omega
theorem V_nn {l : List Per} (hg : Gds l) {n j : Nat} {e : Int} (hn : n ≤ l.length) (hj : j < n) (he : 0 ≤ e) : 0 ≤ V l n j e := by
  unfold V
  have := C_nn hg j (by omega)
  have := setup_nn hg j
  have := hc_nn (seg l j n) e (hg.seg _ _) he
  omega
theorem seg_app {l m : List Per} {k n : Nat} (h : n ≤ l.length) : seg (l ++ m) k n = seg l k n := by
  unfold seg
  rw [List.take_append_of_le_length h]
theorem getD_app {l m : List Per} {k : Nat} (h : k < l.length) : (l ++ m).getD k P0 = l.getD k P0 := by
  rw [List.getD_eq_getElem?_getD, List.getD_eq_getElem?_getD, List.getElem?_append_left h]
theorem C_app {l m : List Per} : ∀ (n : Nat), n ≤ l.length → C (l ++ m) n = C l n := by
  intro n
  induction n using Nat.strongRecOn with
  | ind n ih =>
    intro hn
    cases n with
    | zero => rfl
    | succ n =>
      have e1 : dem (l ++ m) n = dem l n := by unfold dem; rw [getD_app (by omega)]
      have e2 : ((List.range (n + 1)).map fun j => V (l ++ m) (n + 1) j 0) = (List.range (n + 1)).map fun j => V l (n + 1) j 0 := by
        refine List.map_congr_left fun j hj => ?_
        have hj := List.mem_range.mp hj
        unfold V setup
        rw [ih j hj (by omega), getD_app (by omega), seg_app (by omega)]
      rw [C_succ, C_succ, e1, e2, ih n (by omega) (by omega)]
theorem V_app {l m : List Per} {n j : Nat} (hn : n ≤ l.length) (hj : j < n) (e : Int) : V (l ++ m) n j e = V l n j e := by
  unfold V setup
  rw [C_app j (by omega), getD_app (by omega), seg_app (by omega)]
theorem C_take {l : List Per} {m n : Nat} (h : n ≤ m) (hm : m ≤ l.length) : C (l.take m) n = C l n := by
  have := C_app (l := l.take m) (m := l.drop m) n (by rw [List.length_take]; omega)
  rwa [List.take_append_drop, eq_comm] at this
def LC (l : List Per) (e : Int) : Int := if e = 0 then C l l.length else lmin ((List.range l.length).map fun j => V l l.length j e)
theorem LC_zero (l : List Per) : LC l 0 = C l l.length := by simp [LC]
theorem LC_pos {l : List Per} {e : Int} (h : e ≠ 0) : LC l e = lmin ((List.range l.length).map fun j => V l l.length j e) := by simp [LC, h]
theorem LC_le {l : List Per} (hg : Gds l) {e : Int} {j : Nat} (h : j < l.length) : LC l e ≤ V l l.length j e := by
  by_cases he : e = 0
  · subst he
    rw [LC_zero]
    exact C_le hg _ _ (Nat.le_refl _) h
  · rw [LC_pos he]
    exact lmin_map_le h
theorem LC_at {l : List Per} {e : Int} (h : 0 < l.length) (he : e ≠ 0) : ∃ j, j < l.length ∧ LC l e = V l l.length j e := by
  rw [LC_pos he]
  exact lmin_map_at h
theorem C_dear {l : List Per} (hg : Gds l) {e S h : Int} (he : 0 < e) (hl : 0 < l.length) (hS : ∃ j, j < l.length ∧ V l l.length j e ≤ S) : C (l ++ [(e, S, h)]) (l.length + 1) = LC l e := by
  have hd : dem (l ++ [(e, S, h)]) l.length ≠ 0 := by
    unfold dem
    rw [getD_at (x := (e, S, h)) (by rw [List.getElem?_append_right (Nat.le_refl _), Nat.sub_self]; rfl)]
    show e ≠ 0
    omega
  have hv : ∀ j, j < l.length → V (l ++ [(e, S, h)]) (l.length + 1) j 0 = V l l.length j e := by
    intro j hj
    unfold V setup
    rw [C_app j (by omega), getD_app hj]
    have : seg (l ++ [(e, S, h)]) j (l.length + 1) = seg l j l.length ++ [(e, S, h)] := by
      unfold seg
      rw [List.take_length, List.take_of_length_le (by simp), List.drop_append_of_le_length (by omega)]
    rw [this, hc_snoc]
    simp
  have hlast : V (l ++ [(e, S, h)]) (l.length + 1) l.length 0 = C l l.length + S := by
    unfold V setup
    rw [C_app _ (Nat.le_refl _), getD_at (x := (e, S, h)) (by rw [List.getElem?_append_right (Nat.le_refl _), Nat.sub_self]; rfl)]
    have : seg (l ++ [(e, S, h)]) l.length (l.length + 1) = [(e, S, h)] := by
      unfold seg
      rw [List.take_of_length_le (by simp), List.drop_append_of_le_length (Nat.le_refl _), List.drop_length]
      rfl
    rw [this]
    simp [hc]
  rw [C_p hd]
  apply Int.le_antisymm
  · obtain ⟨j, h1, h2⟩ := LC_at hl (show e ≠ 0 by omega)
    rw [h2, ← hv j h1]
    exact lmin_map_le (by omega)
  · obtain ⟨j, h1, h2⟩ := lmin_map_at (f := fun j => V (l ++ [(e, S, h)]) (l.length + 1) j 0) (show 0 < l.length + 1 by omega)
    rw [h2]
    by_cases hj : j < l.length
    · rw [hv j hj]
      exact LC_le hg hj
    · have : j = l.length := by omega
      subst this
      rw [hlast]
      obtain ⟨k, k1, k2⟩ := hS
      have := LC_le hg (e := e) k1
      have := C_nn hg l.length (Nat.le_refl _)
      omega
end Lw

namespace Lw
open PySem Ct L2
theorem range_set {α : Type} (n k : Nat) (f : Nat → α) (v : α) : ((List.range n).map f).set k v = (List.range n).map fun j => if j = k then v else f j := by
  refine List.ext_getElem? fun j => ?_
  rw [List.getElem?_set, List.getElem?_map, List.getElem?_map]
  by_cases h : j < n
  · rw [List.getElem?_range h]
    by_cases e : k = j
    · subst e
      simp [h]
    · have e2 : ¬ j = k := fun z => e z.symm
      simp [e, e2]
  · rw [List.getElem?_eq_none (by simp; omega)]
    simp
    intro e1
    omega
theorem rep_int (n : Nat) (i : Int) (hn : n ≤ 1000) : sRep (.list [.int i]) (.int (n : Int)) = .ok (.list (List.replicate n (.int i))) := by
  have hz := le_size hn
  unfold sRep
  dsimp only
  rw [if_pos ⟨by omega, by omega, by simp; exact hz⟩]
  simp
def lastV (l : List Per) (cs : List Int) (n : Nat) (e : Int) (j : Nat) : Int := cs.getD j 0 + setup l j + hc (seg l j n) e
def lastR (l : List Per) (cs : List Int) (n : Nat) (e : Int) (k : Nat) : List Int := (List.range n).map fun j => if j < k then 0 else lastV l cs n e j
theorem last_loop (l : List Per) (cs : List Int) (n : Nat) (e : Int) (hg : Gds l) (hn : n ≤ l.length) (hc1 : n ≤ cs.length) (hl : l.length ≤ 500) (he : 0 ≤ e) (he2 : e ≤ 1000000 * BC) : ∀ (k : Nat) (s7 s8 s9 s10 : Sl), k ≤ n → ∃ t5 t6 t7 t8 t9 t10, loopS (tgN 7) b_last_costs_1 ((List.range k).map fun k : Nat => PyData.int (k : Int)).reverse [.va (rowsD l), .va (intsL cs), .va (.int (n : Int)), .va (.int e), .ow ((lastR l cs n e k).map PyData.int), .va (.int (dsum (seg l k n) + e)), .va (.int (hc (seg l k n) e)), s7, s8, s9, s10] = .nx [.va (rowsD l), .va (intsL cs), .va (.int (n : Int)), .va (.int e), .ow ((lastR l cs n e 0).map PyData.int), t5, t6, t7, t8, t9, t10]
  | 0, s7, s8, s9, s10, _ => ⟨_, _, s7, s8, s9, s10, by simp [loopS]; exact ⟨rfl, rfl⟩⟩
  | k + 1, s7, s8, s9, s10, hk => by
    have x1 := at_getD (l := l) (k := k) (by omega)
    have sg := seg_at (l := l) (k := k) (n := n) (by omega) hn
    have hx := hg.at x1
    have rx := row_at x1
    have c1 : cs[k]? = some (cs.getD k 0) := by rw [List.getD_eq_getElem?_getD, List.getElem?_eq_getElem (by omega)]; rfl
    have rc : sIx (intsL cs) (.int (k : Int)) = .ok (.int (cs.getD k 0)) := ix_map c1
    have b0 := dsum_le (seg l (k + 1) n) (hg.seg _ _) 500 (by unfold seg; simp; omega)
    have b1 := dsum_nn (seg l (k + 1) n) (hg.seg _ _)
    have b2 := hx.hb
    have b3 := hx.h1
    have b4 := BC_big
    have b5 := BB_pos
    obtain ⟨t5, t6, t7, t8, t9, t10, ee⟩ := last_loop l cs n e hg hn hc1 hl he he2 k (.va (.int k)) (.va (.int (l.getD k P0).1)) (.va (.int (l.getD k P0).2.1)) (.va (.int (l.getD k P0).2.2)) (by omega)
    refine ⟨t5, t6, t7, t8, t9, t10, ?_⟩
    rw [← ee, List.range_succ, List.map_append, List.map_singleton, List.reverse_append, List.reverse_singleton]
    have il : ixN ((lastR l cs n e (k + 1)).map PyData.int).length (k : Int) = some k := by
      rw [ixN_in (by omega) (by simp [lastR]; omega)]
      simp
    have st : ((lastR l cs n e (k + 1)).map PyData.int).set k (.int (lastV l cs n e k)) = (lastR l cs n e k).map PyData.int := by
      unfold lastR
      rw [List.map_map, List.map_map, range_set]
      refine List.map_congr_left fun j hj => ?_
      by_cases e1 : j = k
      · subst e1
        simp
      · by_cases e2 : j < k
        · have : j < k + 1 := by omega
          simp [e1, e2, this]
        · have : ¬ j < k + 1 := by omega
          simp [e1, e2, this]
    have hv : lastV l cs n e k = cs.getD k 0 + (l.getD k P0).2.1 + hc (seg l k n) e := rfl
    rw [hv, sg] at st
    rw [sg, dsum_cons]
    have hh : hc (l.getD k P0 :: seg l (k + 1) n) e = (l.getD k P0).2.2 * (dsum (seg l (k + 1) n) + e) + hc (seg l (k + 1) n) e := rfl
    rw [hh] at st ⊢
    generalize l.getD k P0 = x at *
    generalize cs.getD k 0 = ck at *
    have m := mulC (x := x.2.2) (y := dsum (seg l (k + 1) n) + e) (by omega) (by omega) (by omega) (by omega)
    generalize hS : seg l (k + 1) n = S at *
    generalize hA : (lastR l cs n e (k + 1)).map PyData.int = A at *
    have a1 : hc S e + x.2.2 * (dsum S + e) = x.2.2 * (dsum S + e) + hc S e := by omega
    have a2 : dsum S + e + x.1 = x.1 + dsum S + e := by omega
    simp only [List.cons_append, List.nil_append, loopS, q_tgN]
    have bd : b_last_costs_1 [.va (rowsD l), .va (intsL cs), .va (.int (n : Int)), .va (.int e), .ow A, .va (.int (dsum S + e)), .va (.int (hc S e)), .va (.int k), s8, s9, s10] = .nx [.va (rowsD l), .va (intsL cs), .va (.int (n : Int)), .va (.int e), .ow ((lastR l cs n e k).map PyData.int), .va (.int (x.1 + dsum S + e)), .va (.int (x.2.2 * (dsum S + e) + hc S e)), .va (.int k), .va (.int x.1), .va (.int x.2.1), .va (.int x.2.2)] := by
      simp [b_last_costs_1, rx, rc, pd, m, il, a1, a2, st]
    simp [bd]
theorem last_ok (l : List Per) (cs : List Int) (n : Nat) (e : Int) (hg : Gds l) (hn : n ≤ l.length) (hc1 : n ≤ cs.length) (hl : l.length ≤ 500) (he : 0 ≤ e) (he2 : e ≤ 1000000 * BC) : f_last_costs [rowsD l, intsL cs, .int (n : Int), .int e] = .ok (intsL ((List.range n).map (lastV l cs n e))) := by
  rw [u_last_costs]
  unfold g_last_costs
  obtain ⟨t5, t6, t7, t8, t9, t10, ee⟩ := last_loop l cs n e hg hn hc1 hl he he2 n .un .un .un .un (Nat.le_refl _)
  have r0 := rep_int n 0 (by omega)
  have e0 : (lastR l cs n e n).map PyData.int = List.replicate n (PyData.int 0) := by
    unfold lastR
    rw [List.map_map]
    have : ∀ j ∈ List.range n, (PyData.int ∘ fun j => if j < n then 0 else lastV l cs n e j) j = PyData.int 0 := by
      intro j hj
      have := List.mem_range.mp hj
      simp [this]
    rw [List.map_congr_left this]
    exact List.map_const' .. |>.trans (by simp)
  have e1 : lastR l cs n e 0 = (List.range n).map (lastV l cs n e) := by
    unfold lastR
    simp
  rw [e0, e1, seg_nil] at ee
  simp only [dsum_nil, hc, Int.zero_add] at ee
  generalize (List.range n).map (lastV l cs n e) = R at *
  have rr := rg1_map n (by omega)
  simp [r0, rr, ee]
theorem last_V (l : List Per) (m n : Nat) (e : Int) (h : n ≤ m + 1) : (List.range n).map (lastV l (costs l m) n e) = (List.range n).map fun j => V l n j e := by
  refine List.map_congr_left fun j hj => ?_
  have := List.mem_range.mp hj
  unfold lastV V
  rw [costs_getD l m j (by omega)]
theorem min_ints {o : List Int} (h : o ≠ []) : sMin (intsL o) = .ok (.int (lmin o)) := by
  cases o with
  | nil => exact absurd rfl h
  | cons n ns =>
    show (match intsD ((n :: ns).map PyData.int) with | some (n :: ns) => Rs.ok (PyData.int (lmin (n :: ns))) | _ => Rs.stuck) = _
    rw [intsD_map]
theorem range_ne {n : Nat} (f : Nat → Int) (h : 0 < n) : (List.range n).map f ≠ [] := by
  intro z
  have := congrArg List.length z
  simp at this
  omega
theorem least_loop (l : List Per) (hg : Gds l) (hl : l.length ≤ 500) : ∀ (m k : Nat) (s2 : Sl), k + m = l.length → ∃ t2, loopS (tgN 2) b_least_costs_1 ((List.range' (k + 1) m).map fun k : Nat => PyData.int (k : Int)) [.va (rowsD l), .ow ((costs l k).map PyData.int), s2] = .nx [.va (rowsD l), .ow ((costs l l.length).map PyData.int), t2]
  | 0, k, s2, hk => ⟨s2, by simp at hk; subst hk; simp [loopS]⟩
  | m + 1, k, s2, hk => by
    have x1 := at_getD (l := l) (k := k) (by omega)
    have rx := row_at x1
    obtain ⟨t2, ee⟩ := least_loop l hg hl m (k + 1) (.va (.int ((k : Int) + 1))) (by omega)
    refine ⟨t2, ?_⟩
    rw [← ee, List.range'_succ]
    have k1 : (k : Int) + 1 - 1 = (k : Int) := by omega
    have hz : (costs l k).length < sizeLine := lt_size (by rw [costs_len]; omega)
    have la := last_ok l (costs l k) (k + 1) 0 hg (by omega) (by rw [costs_len]; omega) hl (Int.le_refl _) (by have := BC_big; have := BB_pos; omega)
    rw [last_V l k (k + 1) 0 (Nat.le_refl _)] at la
    have mi := min_ints (range_ne (fun j => V l (k + 1) j 0) (show 0 < k + 1 by omega))
    have ne : sIx (intsL (costs l k)) (.int (-1)) = .ok (.int (C l k)) := by
      refine ix_neg (k := 1) (by omega) (by simp [costs_len]) ?_
      rw [List.length_map, costs_len, List.getElem?_map, Nat.add_sub_cancel, costs_at l k k (Nat.le_refl _)]
      rfl
    have bd : b_least_costs_1 [.va (rowsD l), .ow ((costs l k).map PyData.int), .va (.int ((k : Int) + 1))] = .nx [.va (rowsD l), .ow ((costs l (k + 1)).map PyData.int), .va (.int ((k : Int) + 1))] := by
      have cc : costs l (k + 1) = costs l k ++ [if dem l k = 0 then (costs l k).getD k 0 else lmin ((List.range (k + 1)).map fun j => (costs l k).getD j 0 + setup l j + hc (seg l j (k + 1)) 0)] := rfl
      have c2 : (List.range (k + 1)).map (fun j => (costs l k).getD j 0 + setup l j + hc (seg l j (k + 1)) 0) = (List.range (k + 1)).map fun j => V l (k + 1) j 0 := last_V l k (k + 1) 0 (Nat.le_refl _)
      rw [cc, c2, costs_getD l k k (Nat.le_refl _)]
      have hd : dem l k = (l.getD k P0).1 := rfl
      rw [hd]
      generalize l.getD k P0 = x at *
      generalize costs l k = cs at *
      generalize (List.range (k + 1)).map (fun j => V l (k + 1) j 0) = vs at *
      by_cases h0 : x.1 = 0
      · simp only [b_least_costs_1, k1]
        simp [k1, rx, h0, ne, hz]
      · simp only [b_least_costs_1, k1]
        have la : f_last_costs [rowsD l, intsL cs, .int ((k : Int) + 1), .int 0] = .ok (intsL vs) := la
        simp [k1, rx, h0, la, mi, hz]
    simp [loopS, bd]
theorem least_ok (l : List Per) (hg : Gds l) (hl : l.length ≤ 500) : f_least_costs [rowsD l] = .ok (intsL (costs l l.length)) := by
  rw [u_least_costs]
  unfold g_least_costs
  obtain ⟨t2, ee⟩ := least_loop l hg hl l.length 0 .un (by omega)
  have c := check_ok l hg
  have r : rg2 1 ((l.length : Int) + 1) = .ok ((List.range' 1 l.length).map fun k : Nat => PyData.int (k : Int)) := by
    have := rg2_len 1 (l.length + 1) (by omega) (by omega)
    rw [rng_map2 1 (l.length + 1) (by omega)] at this
    rw [show ((1 : Nat) : Int) = 1 from rfl, show ((l.length + 1 : Nat) : Int) = (l.length : Int) + 1 by omega] at this
    rw [this, List.range'_eq_map_range, List.map_map]
    rfl
  have c0 : (costs l 0).map PyData.int = [.int 0] := rfl
  rw [c0] at ee
  simp [c, r, ee]
theorem check_ending_ok (l : List Per) (e : Int) (hg : Gds l) (he : 0 ≤ e) (h : 0 < e → l ≠ []) : f_check_ending [rowsD l, .int e] = .ok .none := by
  rw [u_check_ending]
  unfold g_check_ending
  have c := check_ok l hg
  have h1 : ¬ e < 0 := by omega
  by_cases h0 : 0 < e
  · have : ¬ l = [] := h h0
    simp [c, h1, h0, this]
  · simp [c, h1, h0]
theorem neg1 {o : List Int} {n : Nat} {x : Int} (hl : o.length = n + 1) (h : o[n]? = some x) : sIx (intsL o) (.int (-1)) = .ok (.int x) := by
  refine ix_neg (k := 1) (by omega) (by simp [hl]) ?_
  rw [List.length_map, hl, List.getElem?_map, Nat.add_sub_cancel, h]
  rfl
theorem costs_last (l : List Per) : sIx (intsL (costs l l.length)) (.int (-1)) = .ok (.int (C l l.length)) := neg1 (costs_len l _) (costs_at l _ _ (Nat.le_refl _))
theorem least_cost_ok (l : List Per) (e : Int) (hg : Gds l) (hl : l.length ≤ 500) (he : 0 ≤ e) (he2 : e ≤ 1000000 * BC) (h : 0 < e → l ≠ []) : f_least_cost [rowsD l, .int e] = .ok (.int (LC l e)) := by
  rw [u_least_cost]
  unfold g_least_cost
  have c := check_ending_ok l e hg he h
  have lc := least_ok l hg hl
  have cl := costs_last l
  by_cases h0 : e = 0
  · subst h0
    rw [LC_zero]
    simp [c, lc, cl]
  · have la := last_ok l (costs l l.length) l.length e hg (Nat.le_refl _) (by rw [costs_len]; omega) hl he he2
    rw [last_V l l.length l.length e (by omega)] at la
    have hp : 0 < l.length := List.length_pos_iff.mpr (h (by omega))
    have mi := min_ints (range_ne (fun j => V l l.length j e) hp)
    rw [LC_pos h0]
    generalize (List.range l.length).map (fun j => V l l.length j e) = vs at *
    simp [c, lc, h0, la, mi]
end Lw

namespace Lw
open PySem Ct L2
def oD : Option Int → D
  | none => .none
  | some x => .int x
def arr (n : Nat) (f : Nat → Option Int) : List D := (List.range (n + 1)).map fun t => oD (f t)
@[simp] theorem arr_len (n : Nat) (f : Nat → Option Int) : (arr n f).length = n + 1 := by simp [arr]
theorem arr_get {n t : Nat} (f : Nat → Option Int) (h : t ≤ n) : (arr n f)[t]? = some (oD (f t)) := by
  unfold arr
  rw [List.getElem?_map, List.getElem?_range (by omega)]
  rfl
theorem arr_ix {n t : Nat} (f : Nat → Option Int) (h : t ≤ n) : sIx (.list (arr n f)) (.int (t : Int)) = .ok (oD (f t)) := ix_list (by omega) (by simpa using arr_get f h)
theorem arr_set (n t : Nat) (f : Nat → Option Int) (v : Int) : (arr n f).set t (.int v) = arr n fun u => if u = t then some v else f u := by
  unfold arr
  rw [range_set]
  refine List.map_congr_left fun j _ => ?_
  by_cases e : j = t <;> simp [e, oD]
theorem arr_congr {n : Nat} {f g : Nat → Option Int} (h : ∀ t, t ≤ n → f t = g t) : arr n f = arr n g := by
  unfold arr
  refine List.map_congr_left fun j hj => ?_
  rw [h j (by have := List.mem_range.mp hj; omega)]
theorem rg2_map (a n : Nat) (h : a ≤ n) (hn : n ≤ 100000) : rg2 (a : Int) (n : Int) = .ok ((List.range' a (n - a)).map fun k : Nat => PyData.int (k : Int)) := by
  rw [rg2_len a n (by omega) hn, rng_map2 a n h, List.range'_eq_map_range, List.map_map]
  rfl
def rawo (l : List Per) : Nat → Nat → Option Int
  | 0, _ => none
  | k + 1, t => some (match rawo l k t with
    | none => V l t k 0
    | some x => min x (V l t k 0))
theorem rawo_spec (l : List Per) (t : Nat) : ∀ k, ∃ m, rawo l (k + 1) t = some m ∧ (∀ j, j < k + 1 → m ≤ V l t j 0) ∧ ∃ j, j < k + 1 ∧ m = V l t j 0
  | 0 => ⟨V l t 0 0, rfl, fun j hj => by rw [show j = 0 by omega]; exact Int.le_refl _, 0, by omega, rfl⟩
  | k + 1 => by
    obtain ⟨m, h1, h2, j, h3, h4⟩ := rawo_spec l t k
    refine ⟨min m (V l t (k + 1) 0), by rw [rawo, h1], fun i hi => ?_, ?_⟩
    · by_cases e : i = k + 1
      · subst e; omega
      · have := h2 i (by omega); omega
    · by_cases c : m ≤ V l t (k + 1) 0
      · exact ⟨j, by omega, by omega⟩
      · exact ⟨k + 1, by omega, by omega⟩
theorem adj {l : List Per} (hg : Gds l) {k : Nat} (hk : k + 1 ≤ l.length) : ∃ m, rawo l (k + 1) (k + 1) = some m ∧ (if dem l k = 0 then min m (C l k) else m) = C l (k + 1) := by
  obtain ⟨m, h1, h2, j, h3, h4⟩ := rawo_spec l (k + 1) k
  refine ⟨m, h1, ?_⟩
  have := C_le hg (k + 1) j hk h3
  by_cases hd : dem l k = 0
  · rw [if_pos hd]
    have := C_z hd
    omega
  · rw [if_neg hd]
    obtain ⟨i, i1, i2⟩ := C_at hd
    have := h2 i (by omega)
    omega
def fK (l : List Per) (k t : Nat) : Option Int := if t < k then some (C l t) else if t = 0 then some 0 else rawo l k t
def fI (l : List Per) (k i t : Nat) : Option Int := if t ≤ k then some (C l t) else if t ≤ k + i then rawo l (k + 1) t else rawo l k t
theorem inner_loop (l : List Per) (hg : Gds l) (hl : l.length ≤ 500) (k : Nat) (hk : k < l.length) : ∀ (m i : Nat) (s1 s6 : Sl), k + i + m = l.length → ∃ t4 t5 t6, loopS (tgN 6) b_law_costs_1 ((List.range' (k + i) m).map fun k : Nat => PyData.int (k : Int)) [.va (rowsD l), s1, .ow (arr l.length (fI l k i)), .va (.int k), .va (.int (V l (k + i) k 0)), .va (.int (rt (seg l k (k + i)))), s6] = .nx [.va (rowsD l), s1, .ow (arr l.length (fI l k (l.length - k))), .va (.int k), t4, t5, t6]
  | 0, i, s1, s6, h => ⟨_, _, s6, by rw [show l.length - k = i by omega]; simp [loopS]; exact ⟨rfl, rfl⟩⟩
  | m + 1, i, s1, s6, h => by
    have x1 := at_getD (l := l) (k := k + i) (by omega)
    have rx := row_at x1
    have hx := hg.at x1
    have b1 := rt_nn (seg l k (k + i)) (hg.seg _ _)
    have b2 := rt_le (seg l k (k + i)) (hg.seg _ _)
    have b3 : ((seg l k (k + i)).length : Int) * BB ≤ 500 * BB := Int.mul_le_mul_of_nonneg_right (by unfold seg; simp; omega) (by have := BB_pos; omega)
    have b4 := BC_big
    have b5 := BB_pos
    have b6 := hx.d0
    have b7 := hx.db
    have vs := V_snoc (l := l) (k := k) (n := k + i) (by omega) (by omega)
    have sg := seg_snoc (l := l) (k := k) (n := k + i) (by omega) (by omega)
    have hd : dem l (k + i) = (l.getD (k + i) Lw.P0).1 := rfl
    have rs : rt (seg l k (k + i + 1)) = rt (seg l k (k + i)) + (l.getD (k + i) Lw.P0).2.2 := by rw [sg, rt_app]; simp [rt]
    obtain ⟨t4, t5, t6, ee⟩ := inner_loop l hg hl k hk m (i + 1) s1 (.va (.int ((k : Int) + (i : Int)))) (by omega)
    refine ⟨t4, t5, t6, ?_⟩
    rw [← ee, List.range'_succ, show k + (i + 1) = k + i + 1 by omega, vs, rs, hd]
    have il : ixN (arr l.length (fI l k i)).length ((k : Int) + (i : Int) + 1) = some (k + i + 1) := by
      rw [ixN_in (by omega) (by rw [arr_len]; omega)]
      congr 1
    have ax := arr_ix (fI l k i) (show k + i + 1 ≤ l.length by omega)
    rw [show ((k + i + 1 : Nat) : Int) = (k : Int) + (i : Int) + 1 by omega] at ax
    rw [show ((k + i : Nat) : Int) = (k : Int) + (i : Int) by omega] at rx
    have fe : fI l k i (k + i + 1) = rawo l k (k + i + 1) := by
      unfold fI
      rw [if_neg (by omega), if_neg (by omega)]
    rw [fe] at ax
    have hV : V l (k + i + 1) k 0 = V l (k + i) k 0 + rt (seg l k (k + i)) * (l.getD (k + i) Lw.P0).1 := vs
    have st : ∀ w, rawo l (k + 1) (k + i + 1) = some w → (arr l.length (fI l k i)).set (k + i + 1) (.int w) = arr l.length (fI l k (i + 1)) := by
      intro w hw
      rw [arr_set]
      refine arr_congr fun t _ => ?_
      unfold fI
      by_cases e1 : t = k + i + 1
      · subst e1
        rw [if_pos rfl, if_neg (by omega), if_pos (by omega), hw]
      · rw [if_neg e1]
        by_cases e2 : t ≤ k
        · simp [e2]
        · by_cases e3 : t ≤ k + i
          · rw [if_neg e2, if_pos e3, if_neg e2, if_pos (by omega)]
          · rw [if_neg e2, if_neg e3, if_neg e2, if_neg (by omega)]
    have kp : ∀ w, rawo l (k + 1) (k + i + 1) = some w → rawo l k (k + i + 1) = some w → arr l.length (fI l k i) = arr l.length (fI l k (i + 1)) := by
      intro w h1 h2
      refine arr_congr fun t _ => ?_
      unfold fI
      by_cases e1 : t = k + i + 1
      · subst e1
        rw [if_neg (by omega), if_neg (by omega), if_neg (by omega), if_pos (by omega), h1, h2]
      · by_cases e2 : t ≤ k
        · simp [e2]
        · by_cases e3 : t ≤ k + i
          · rw [if_neg e2, if_pos e3, if_neg e2, if_pos (by omega)]
          · rw [if_neg e2, if_neg e3, if_neg e2, if_neg (by omega)]
    have rw2 : rawo l (k + 1) (k + i + 1) = some (match rawo l k (k + i + 1) with
      | none => V l (k + i + 1) k 0
      | some x => min x (V l (k + i + 1) k 0)) := rfl
    rw [hV] at rw2
    generalize hx0 : l.getD (k + i) Lw.P0 = x at *
    have mu := mulC (x := rt (seg l k (k + i))) (y := x.1) (by omega) (by omega) (by omega) (by omega)
    generalize rt (seg l k (k + i)) = r at *
    generalize V l (k + i) k 0 = v at *
    generalize hr : rawo l k (k + i + 1) = o at *
    cases o with
    | none =>
      have st := st _ rw2
      simp only [oD] at ax
      generalize arr l.length (fI l k i) = A at *
      simp [loopS, b_law_costs_1, rx, mu, ax, il, st]
    | some w =>
      simp only [oD] at ax
      by_cases c : v + r * x.1 < w
      · have st := st (v + r * x.1) (by rw [rw2]; show some (min w (v + r * x.1)) = _; congr 1; omega)
        generalize arr l.length (fI l k i) = A at *
        simp [loopS, b_law_costs_1, rx, mu, ax, il, st, c]
      · have kp := kp w (by rw [rw2]; show some (min w (v + r * x.1)) = _; congr 1; omega) rfl
        rw [← kp]
        generalize arr l.length (fI l k i) = A at *
        simp [loopS, b_law_costs_1, rx, mu, ax, il, c]
theorem outer_loop (l : List Per) (hg : Gds l) (hl : l.length ≤ 500) : ∀ (m k : Nat) (s1 s3 s4 s5 s6 : Sl), k + m = l.length → ∃ t3 t4 t5 t6, loopS (tgN 3) b_law_costs_2 ((List.range' k m).map fun k : Nat => PyData.int (k : Int)) [.va (rowsD l), s1, .ow (arr l.length (fK l k)), s3, s4, s5, s6] = .nx [.va (rowsD l), s1, .ow (arr l.length (fK l l.length)), t3, t4, t5, t6]
  | 0, k, s1, s3, s4, s5, s6, h => ⟨s3, s4, s5, s6, by simp at h; subst h; simp [loopS]⟩
  | m + 1, k, s1, s3, s4, s5, s6, h => by
    have x1 := at_getD (l := l) (k := k) (by omega)
    have rx := row_at x1
    obtain ⟨u4, u5, u6, ei⟩ := inner_loop l hg hl k (by omega) (l.length - k) 0 s1 s6 (by omega)
    obtain ⟨t3, t4, t5, t6, ee⟩ := outer_loop l hg hl m (k + 1) s1 (.va (.int k)) u4 u5 u6 (by omega)
    refine ⟨t3, t4, t5, t6, ?_⟩
    have fE : arr l.length (fI l k (l.length - k)) = arr l.length (fK l (k + 1)) := by
      refine arr_congr fun t ht => ?_
      unfold fI fK
      by_cases e1 : t ≤ k
      · rw [if_pos e1, if_pos (by omega)]
      · rw [if_neg e1, if_pos (by omega), if_neg (by omega), if_neg (by omega)]
    rw [fE] at ei
    rw [← ee, List.range'_succ]
    have rg := rg2_map k l.length (by omega) (by omega)
    rw [Nat.add_zero, V_self, seg_nil] at ei
    simp only [rt] at ei
    have ax := arr_ix (fI l k 0) (show k ≤ l.length by omega)
    have fe : fI l k 0 k = some (C l k) := by unfold fI; rw [if_pos (Nat.le_refl _)]
    rw [fe] at ax
    simp only [oD] at ax
    have hs : setup l k = (l.getD k Lw.P0).2.1 := rfl
    rw [hs] at ei
    have key : fIf (fAnd (toB (fBin sGt (fV 3) (fC (.int 0)))) (toB (fBin sEq (fBin sIx (fBin sIx (fV 0) (fBin sSub (fV 3) (fC (.int 1)))) (fC (.int 0))) (fC (.int 0)))))
        (fSet 2 (fCl (o2 sMin2) (aCons (fBin sIx (fB 2) (fV 3)) (aCons (fBin sIx (fB 2) (fBin sSub (fV 3) (fC (.int 1)))) aNil))) (fV 3))
        fSkip [.va (rowsD l), s1, .ow (arr l.length (fK l k)), .va (.int k), s4, s5, s6] = .nx [.va (rowsD l), s1, .ow (arr l.length (fI l k 0)), .va (.int k), s4, s5, s6] := by
      cases k with
      | zero =>
        have : arr l.length (fK l 0) = arr l.length (fI l 0 0) := by
          refine arr_congr fun t ht => ?_
          unfold fI fK
          by_cases e : t = 0
          · subst e; simp [C_zero]
          · simp [e, rawo]
        simp [this]
      | succ j =>
        obtain ⟨w, w1, w2⟩ := adj hg (k := j) (by omega)
        have y1 := at_getD (l := l) (k := j) (by omega)
        have ry := row_at y1
        have b1 := arr_ix (fK l (j + 1)) (show j + 1 ≤ l.length by omega)
        have b2 := arr_ix (fK l (j + 1)) (show j ≤ l.length by omega)
        have f1 : fK l (j + 1) (j + 1) = some w := by
          unfold fK
          rw [if_neg (by omega), if_neg (by omega), w1]
        have f2 : fK l (j + 1) j = some (C l j) := by
          unfold fK
          rw [if_pos (by omega)]
        rw [f1] at b1
        rw [f2] at b2
        simp only [oD] at b1 b2
        have il : ixN (arr l.length (fK l (j + 1))).length ((j : Int) + 1) = some (j + 1) := by
          rw [ixN_in (by omega) (by rw [arr_len]; omega)]
          congr 1
        have st : ∀ z, z = C l (j + 1) → (arr l.length (fK l (j + 1))).set (j + 1) (.int z) = arr l.length (fI l (j + 1) 0) := by
          intro z hz
          rw [arr_set]
          refine arr_congr fun t ht => ?_
          unfold fI fK
          by_cases e1 : t = j + 1
          · subst e1
            rw [if_pos rfl, if_pos (by omega), hz]
          · rw [if_neg e1]
            by_cases e2 : t < j + 1
            · rw [if_pos e2, if_pos (by omega)]
            · rw [if_neg e2, if_neg (by omega), if_neg (by omega), if_neg (by omega)]
        have hd : dem l j = (l.getD j Lw.P0).1 := rfl
        rw [hd] at w2
        rw [show ((j + 1 : Nat) : Int) = (j : Int) + 1 by omega] at *
        have jj : (j : Int) + 1 - 1 = (j : Int) := by omega
        have j0 : (0 : Int) < (j : Int) + 1 := by omega
        generalize l.getD j Lw.P0 = y at *
        by_cases c : y.1 = 0
        · rw [if_pos c] at w2
          have st := st _ w2
          generalize arr l.length (fK l (j + 1)) = A at *
          simp [jj, j0, ry, c, b1, b2, il, st]
        · rw [if_neg c] at w2
          have kp : arr l.length (fK l (j + 1)) = arr l.length (fI l (j + 1) 0) := by
            refine arr_congr fun t ht => ?_
            by_cases e1 : t = j + 1
            · subst e1
              rw [f1, w2]
              unfold fI
              rw [if_pos (Nat.le_refl _)]
            · unfold fI fK
              by_cases e2 : t < j + 1
              · rw [if_pos e2, if_pos (by omega)]
              · rw [if_neg e2, if_neg (by omega), if_neg (by omega), if_neg (by omega)]
          rw [← kp]
          generalize arr l.length (fK l (j + 1)) = A at *
          simp [jj, j0, ry, c]
    have bd : b_law_costs_2 [.va (rowsD l), s1, .ow (arr l.length (fK l k)), .va (.int k), s4, s5, s6] = .nx [.va (rowsD l), s1, .ow (arr l.length (fK l (k + 1))), .va (.int k), u4, u5, u6] := by
      unfold b_law_costs_2
      rw [seq_nx key]
      generalize l.getD k Lw.P0 = x at *
      generalize arr l.length (fI l k 0) = A at *
      simp [ax, rx, rg, ei]
    simp [loopS, bd]
theorem law_costs_ok (l : List Per) (hg : Gds l) (hl : l.length ≤ 500) : f_law_costs [rowsD l] = .ok (intsL (costs l l.length)) := by
  rw [u_law_costs]
  unfold g_law_costs
  have c1 : c_law_costs_1 [.va (rowsD l), .un, .un, .un, .un, .un, .un] = .ok (.list ((List.range l.length).map fun _ => PyData.none)) := by
    unfold c_law_costs_1
    have r := rg1_map l.length (by omega)
    exact comp_list (fun k : Nat => PyData.int (k : Int)) (fun _ => PyData.none) (List.range l.length) (by simp; omega) (by simp [r]) rfl fun x _ => ⟨_, rfl, rfl⟩
  have ca : sCat (.list [.int 0]) (.list ((List.range l.length).map fun _ => PyData.none)) = .ok (.list (arr l.length (fK l 0))) := by
    have hz : [PyData.int 0].length + ((List.range l.length).map fun _ => PyData.none).length ≤ sizeLine := le_size (by simp; omega)
    unfold sCat
    dsimp only
    rw [if_pos hz]
    refine congrArg (fun x => Rs.ok (PyData.list x)) ?_
    unfold arr
    rw [List.range_succ_eq_map, List.map_cons, List.map_map]
    rfl
  obtain ⟨t3, t4, t5, t6, ee⟩ := outer_loop l hg hl l.length 0 .un .un .un .un .un (by omega)
  have r := rg1_map l.length (by omega)
  rw [List.range_eq_range'] at r
  have fin : ∀ f : Nat → Option Int, (∀ t, t ≤ l.length → f t = some (C l t)) → PyData.list (arr l.length f) = intsL (costs l l.length) := by
    intro f hf
    unfold intsL
    rw [costs_map, List.map_map]
    unfold arr
    refine congrArg PyData.list (List.map_congr_left fun j hj => ?_)
    rw [hf j (by have := List.mem_range.mp hj; omega)]
    rfl
  by_cases h0 : l.length = 0
  · have : l = [] := List.eq_nil_of_length_eq_zero h0
    subst this
    have fin := fin (fK [] 0) (fun t ht => by
      have : t = 0 := by simpa using ht
      subst this
      rfl)
    simp only [List.length_nil] at *
    generalize arr 0 (fK [] 0) = A at *
    simp [List.range', loopS] at ee
    simp at ca
    simp [c1, ca, fin, loopS]
  · obtain ⟨j, hj⟩ : ∃ j, l.length = j + 1 := ⟨l.length - 1, by omega⟩
    obtain ⟨w, w1, w2⟩ := adj hg (k := j) (by omega)
    have y1 := at_getD (l := l) (k := j) (by omega)
    have ry : sIx (rowsD l) (.int (-1)) = .ok (pd (l.getD j Lw.P0)) := by
      refine ix_neg (k := 1) (by omega) (by simp; omega) ?_
      rw [List.length_map, hj, Nat.add_sub_cancel, List.getElem?_map, y1]
      rfl
    have f1 : fK l l.length (j + 1) = some w := by
      unfold fK
      rw [if_neg (by omega), if_neg (by omega), hj, w1]
    have f2 : fK l l.length j = some (C l j) := by
      unfold fK
      rw [if_pos (by omega)]
    have b1 : sIx (.list (arr l.length (fK l l.length))) (.int (-1)) = .ok (.int w) := by
      refine ix_neg (k := 1) (by omega) (by simp) ?_
      rw [arr_len, Nat.add_sub_cancel, arr_get _ (Nat.le_refl _), hj, ← hj, show fK l l.length l.length = fK l l.length (j + 1) by rw [← hj], f1]
      rfl
    have b2 : sIx (.list (arr l.length (fK l l.length))) (.int (-2)) = .ok (.int (C l j)) := by
      refine ix_neg (k := 2) (by omega) (by simp; omega) ?_
      rw [arr_len, show l.length + 1 - 2 = j by omega, arr_get _ (by omega), f2]
      rfl
    have il : ixN (arr l.length (fK l l.length)).length (-1) = some l.length := by
      unfold ixN
      rw [arr_len]
      first
        | (rw [if_neg (by omega), if_pos (by omega)]; exact congrArg some (by omega))
        | (rw [if_neg (by omega), if_neg (by omega)]; exact congrArg some (by omega))
    have lp : 0 < l.length := by omega
    have hd : dem l j = (l.getD j Lw.P0).1 := rfl
    rw [hd] at w2
    by_cases c : (l.getD j Lw.P0).1 = 0
    · rw [if_pos c] at w2
      have fin := fin (fun u => if u = l.length then some (min w (C l j)) else fK l l.length u) fun t ht => by
        show (if t = l.length then some (min w (C l j)) else fK l l.length t) = _
        by_cases e : t = l.length
        · rw [if_pos e, w2, e, hj]
        · rw [if_neg e]
          unfold fK
          rw [if_pos (by omega)]
      rw [← arr_set] at fin
      generalize l.getD j Lw.P0 = y at *
      generalize arr l.length (fK l l.length) = A at *
      generalize arr l.length (fK l 0) = A0 at *
      simp [c1, ca, r, ee, lp, ry, c, b1, b2, il, fin]
    · rw [if_neg c] at w2
      have fin := fin (fK l l.length) fun t ht => by
        by_cases e : t = l.length
        · rw [e, show fK l l.length l.length = fK l l.length (j + 1) by rw [← hj], f1, w2, hj]
        · unfold fK
          rw [if_pos (by omega)]
      generalize l.getD j Lw.P0 = y at *
      generalize arr l.length (fK l l.length) = A at *
      generalize arr l.length (fK l 0) = A0 at *
      simp [c1, ca, r, ee, lp, ry, c, fin]
end Lw

namespace Lw
open PySem Ct L2
theorem comp_flt0 {α : Type} {tg : Tg} {c : Rho → Rs Bool} {e : Rho → Rs D} {ρ : Rho} (p q : α → D) (b : α → Bool) : ∀ (l : List α), (∀ x ∈ l, ∃ ρ1, tg (p x) ρ = .ok ρ1 ∧ c ρ1 = .ok (b x) ∧ e ρ1 = .ok (q x)) → compS tg c e ρ (l.map p) = .ok ((l.filter b).map q)
  | [], _ => rfl
  | x :: l, h => by
    obtain ⟨ρ1, e1, e0, e2⟩ := h x List.mem_cons_self
    have h3 := comp_flt0 p q b l fun d hd => h d (List.mem_cons_of_mem _ hd)
    cases hb : b x with
    | true =>
      rw [hb] at e0
      rw [List.filter_cons_of_pos hb]
      simp only [List.map_cons, compS, e1, e0, e2, h3, Rs.bind_ok]
    | false =>
      rw [hb] at e0
      rw [List.filter_cons_of_neg (by rw [hb]; exact Bool.false_ne_true)]
      simp only [List.map_cons, compS, e1, e0, h3]
theorem comp_flt {α : Type} {vs : List Nat} {f : Rho → Rs (List D)} {tg : Tg} {c : Rho → Rs Bool} {e : Rho → Rs D} {ρ ρ0 : Rho} (p q : α → D) (b : α → Bool) (l : List α) (hl : l.length ≤ 1000) (hf : f ρ = .ok (l.map p)) (hw : wipeR ρ vs = ρ0) (h : ∀ x ∈ l, ∃ ρ1, tg (p x) ρ0 = .ok ρ1 ∧ c ρ1 = .ok (b x) ∧ e ρ1 = .ok (q x)) : fComp vs f tg c e ρ = .ok (.list ((l.filter b).map q)) := by
  unfold fComp
  rw [hf, Rs.bind_ok, if_pos (by rw [List.length_map]; exact le_size hl), hw, comp_flt0 p q b l h]
def starts (l : List Per) (n : Nat) (e c : Int) : List Nat := (List.range n).filter fun j => decide (V l n j e = c)
def ways (l : List Per) : Nat → List Int
  | 0 => [1]
  | n + 1 => ways l n ++ [if dem l n = 0 then (ways l n).getD n 0 else ((starts l (n + 1) 0 (C l (n + 1))).map fun j => (ways l n).getD j 0).sum]
def W (l : List Per) (n : Nat) : Int := (ways l n).getD n 0
theorem starts_lt {l : List Per} {n : Nat} {e c : Int} {j : Nat} (h : j ∈ starts l n e c) : j < n := List.mem_range.mp (List.mem_filter.mp h).1
theorem starts_ok (l : List Per) (m n : Nat) (e : Int) (hg : Gds l) (hp : 0 < n) (hn : n ≤ l.length) (hm : n ≤ m + 1) (hl : l.length ≤ 500) (he : 0 ≤ e) (he2 : e ≤ 1000000 * BC) : f_best_starts [rowsD l, intsL (costs l m), .int (n : Int), .int e] = .ok (.list ((starts l n e (lmin ((List.range n).map fun j => V l n j e))).map fun k : Nat => PyData.int (k : Int))) := by
  rw [u_best_starts]
  unfold g_best_starts
  have la := last_ok l (costs l m) n e hg hn (by rw [costs_len]; omega) hl he he2
  rw [last_V l m n e hm] at la
  have mi := min_ints (range_ne (fun j => V l n j e) hp)
  have rr := rg1_map n (by omega)
  have gt : ∀ j, j < n → ((List.range n).map fun j => V l n j e)[j]? = some (V l n j e) := fun j hj => by
    rw [List.getElem?_map, List.getElem?_range hj]; rfl
  have gl : ((List.range n).map fun j => V l n j e).length = n := by simp
  unfold starts
  generalize hvs : (List.range n).map (fun j => V l n j e) = vs at *
  have cc : c_best_starts_1 [.va (rowsD l), .va (intsL (costs l m)), .va (.int (n : Int)), .va (.int e), .va (intsL vs), .va (.int (lmin vs)), .un] = .ok (.list (((List.range n).filter fun j => decide (V l n j e = lmin vs)).map fun k : Nat => PyData.int (k : Int))) := by
    unfold c_best_starts_1
    refine comp_flt (fun k : Nat => PyData.int (k : Int)) (fun k : Nat => PyData.int (k : Int)) (fun j => decide (V l n j e = lmin vs)) (List.range n) (by simp; omega) (by simp [rr]) rfl fun j hj => ?_
    have hj := List.mem_range.mp hj
    have ix : sIx (intsL vs) (.int (j : Int)) = .ok (.int (V l n j e)) := ix_list (by omega) (by simpa [intsL] using gt j hj)
    exact ⟨_, rfl, by simp [ix], by simp⟩
  simp [la, mi, cc]
end Lw

namespace Lw
open PySem Ct L2
def hold (l : List Per) (n : Nat) : Int := (l.getD n P0).2.2
def cl (l : List Per) : Nat → Int → List Int
  | 0, e => if e = 0 then [0] else []
  | n + 1, e => (cl l n (dem l n + e)).map (fun x => x + hold l n * e) ++ (if 0 < dem l n + e then (cl l n 0).map (fun x => x + (setup l n + hold l n * e)) else [])
def cs (l : List Per) (n : Nat) (e c : Int) : Nat := ((List.range n).map fun k => (cl l k 0).count (c - V l n k e + C l k)).sum
end Lw

namespace Lw
open PySem Ct L2
theorem add_rows {l m : List Per} (h : l.length + m.length ≤ 1000) : sAdd (rowsD l) (rowsD m) = .ok (rowsD (l ++ m)) := by
  have hz : (l.map pd).length + (m.map pd).length ≤ sizeLine := le_size (by simp; omega)
  show (if (l.map pd).length + (m.map pd).length ≤ sizeLine then Rs.ok (PyData.list (l.map pd ++ m.map pd)) else Rs.stuck) = _
  rw [if_pos hz, ← List.map_append]
  rfl
@[simp] theorem rows_1 (a b c : Int) : PyData.list [.tuple [.int a, .int b, .int c]] = rowsD [(a, b, c)] := id rfl
def highV (l : List Per) (e : Int) : Int := 1 + (l.map fun x => x.2.1 + (e + dsum l) * x.2.2).sum
theorem hc_units : ∀ (l : List Per) (e u : Int), Gds l → 0 ≤ e → e + dsum l ≤ u → hc l e ≤ (l.map fun x => x.2.1 + u * x.2.2).sum
  | [], e, u, _, _, _ => by simp [hc]
  | x :: r, e, u, hg, he, hu => by
    have h1 := hg.head.h1
    have h2 := hg.head.s0
    have h3 := hg.head.d0
    rw [dsum_cons] at hu
    have ih := hc_units r e u hg.tail he (by omega)
    have := Int.mul_le_mul_of_nonneg_left (show dsum r + e ≤ u by omega) (show 0 ≤ x.2.2 by omega)
    rw [List.map_cons, List.sum_cons]
    unfold hc
    rw [Int.mul_comm u]
    omega
theorem sum_su_nn : ∀ (l : List Per) (u : Int), Gds l → 0 ≤ u → 0 ≤ (l.map fun x => x.2.1 + u * x.2.2).sum
  | [], _, _, _ => by simp
  | x :: r, u, hg, hu => by
    have := sum_su_nn r u hg.tail hu
    have h1 := hg.head.h1
    have h2 := hg.head.s0
    have := Int.mul_nonneg hu (show 0 ≤ x.2.2 by omega)
    rw [List.map_cons, List.sum_cons]
    omega
theorem high_ge (l : List Per) (e : Int) (hg : Gds l) (he : 0 ≤ e) (h : l ≠ []) : ∃ j, j < l.length ∧ V l l.length j e ≤ highV l e := by
  refine ⟨0, List.length_pos_iff.mpr h, ?_⟩
  cases l with
  | nil => exact absurd rfl h
  | cons x r =>
    have h1 := hg.head.h1
    have h3 := hg.head.d0
    have hd := dsum_nn r hg.tail
    have ih := hc_units r e (e + dsum (x :: r)) hg.tail he (by rw [dsum_cons]; omega)
    have := Int.mul_le_mul_of_nonneg_left (show dsum r + e ≤ e + dsum (x :: r) by rw [dsum_cons]; omega) (show 0 ≤ x.2.2 by omega)
    unfold V highV
    rw [seg_all, List.drop_zero, C_zero, List.map_cons, List.sum_cons]
    unfold hc
    rw [Int.mul_comm (e + dsum (x :: r)) x.2.2]
    show 0 + x.2.1 + _ ≤ _
    omega
theorem high_nn (l : List Per) (e : Int) (hg : Gds l) (he : 0 ≤ e) : 0 ≤ highV l e := by
  have := sum_su_nn l (e + dsum l) hg (by have := dsum_nn l hg; omega)
  unfold highV
  omega
theorem high_ok (l : List Per) (e : Int) (hg : Gds l) (hl : l.length ≤ 500) (he : 0 ≤ e) (he2 : e ≤ 1000000 * BC) : f_law_high [rowsD l, .int e] = .ok (.int (highV l e)) := by
  rw [u_law_high]
  unfold g_law_high
  have c1 : c_law_high_1 [.va (rowsD l), .va (.int e), .un, .un, .un, .un] = .ok (.list (l.map fun x => PyData.int x.1)) := by
    unfold c_law_high_1
    exact comp_list pd (fun x => PyData.int x.1) l (by omega) (by simp) rfl fun x _ => ⟨_, rfl, rfl⟩
  have s1 := sum_dem l
  have b1 := dsum_le l hg 500 hl
  have b2 := dsum_nn l hg
  have c2 : c_law_high_2 [.va (rowsD l), .va (.int e), .un, .un, .un, .va (.int (e + dsum l))] = .ok (.list (l.map fun x => PyData.int (x.2.1 + (e + dsum l) * x.2.2))) := by
    unfold c_law_high_2
    refine comp_list pd (fun x => PyData.int (x.2.1 + (e + dsum l) * x.2.2)) l (by omega) (by simp) rfl fun x hx => ⟨_, rfl, ?_⟩
    have h1 := (hg x hx).h1
    have h2 := (hg x hx).hb
    have h3 := BC_big
    have h4 := BB_pos
    have m := mulC (x := e + dsum l) (y := x.2.2) (by omega) (by omega) (by omega) (by omega)
    simp [m]
  have s2 := sum_mapI (fun x : Per => x.2.1 + (e + dsum l) * x.2.2) l
  unfold highV
  generalize dsum l = u at *
  simp [c1, s1, c2, s2]
theorem Gds.snoc {l : List Per} (hg : Gds l) {e S : Int} (he : 0 ≤ e) (he2 : e ≤ 1000000 * BC) (hS : 0 ≤ S) : Gds (l ++ [(e, S, 1)]) := hg.app fun x hx => by
  cases List.mem_singleton.mp hx
  exact ⟨he, hS, Int.le_refl _, he2, BB_pos⟩
theorem law_least_ok (l : List Per) (e : Int) (hg : Gds l) (hl : l.length ≤ 400) (he : 0 ≤ e) (he2 : e ≤ 1000000 * BC) (h : 0 < e → l ≠ []) : f_law_least [rowsD l, .int e] = .ok (.int (LC l e)) := by
  rw [u_law_least]
  unfold g_law_least
  by_cases h0 : e = 0
  · subst h0
    have c := law_costs_ok l hg (by omega)
    have cl := costs_last l
    rw [LC_zero]
    simp [c, cl]
  · have hh := high_ok l e hg (by omega) he he2
    have ar := add_rows (l := l) (m := [(e, highV l e, 1)]) (by simp; omega)
    have c := law_costs_ok (l ++ [(e, highV l e, 1)]) (hg.snoc he he2 (high_nn l e hg he)) (by simp; omega)
    have cl := costs_last (l ++ [(e, highV l e, 1)])
    have hn := h (by omega)
    have cd := C_dear (S := highV l e) (h := 1) hg (show 0 < e by omega) (List.length_pos_iff.mpr hn) (high_ge l e hg he hn)
    rw [List.length_append, List.length_singleton] at cl c
    rw [cd] at cl
    simp [h0, hh, ar, c, cl]
def str (x : Per) : Per := (x.1 * 10 ^ 100, x.2.1 * 10 ^ 100 * 10 ^ 100, x.2.2 * 10 ^ 100)
end Lw

namespace Lw
open PySem Ct L2
@[simp] theorem q_mReverse (ds : List D) : mReverse ds [] = .ok ds.reverse := id rfl
def base (l : List Per) (j : Nat) : Int := V l l.length j 0
def rate (l : List Per) (j : Nat) : Int := rt (l.drop j)
def lineD (l : List Per) (j : Nat) : D := .tuple [.int (base l j), .int (rate l j)]
def linesD (l : List Per) : D := .list ((List.range l.length).map (lineD l))
theorem line_at (l : List Per) (j : Nat) (e : Int) : V l l.length j e = base l j + rate l j * e := by
  rw [V_lin, seg_all]
  rfl
theorem rate_succ {l : List Per} {k : Nat} (h : k < l.length) : rate l k = rate l (k + 1) + (l.getD k P0).2.2 := by
  unfold rate
  rw [List.drop_eq_getElem_cons h, rt, List.getD_eq_getElem?_getD, List.getElem?_eq_getElem h]
  show _ = _ + (l[k]).2.2
  omega
theorem rate_end (l : List Per) : rate l l.length = 0 := by
  unfold rate
  rw [List.drop_length]
  rfl
theorem rate_pos {l : List Per} (hg : Gds l) {k : Nat} (h : k < l.length) : 1 ≤ rate l k := by
  rw [rate_succ h]
  have := (hg.at (at_getD h)).h1
  have := rt_nn _ (hg.drop (k + 1))
  unfold rate
  omega
theorem rate_le {l : List Per} (hg : Gds l) (k : Nat) : rate l k ≤ l.length * BB := by
  have h := rt_le _ (hg.drop k)
  have h2 : ((l.drop k).length : Int) * BB ≤ l.length * BB := mul_BB (by rw [List.length_drop]; omega)
  unfold rate
  omega
theorem rate_dec {l : List Per} (hg : Gds l) : ∀ {j k : Nat}, j < k → k ≤ l.length → rate l k < rate l j := by
  intro j k h hk
  induction k with
  | zero => omega
  | succ k ih =>
    have := rate_succ (l := l) (k := k) (by omega)
    have := (hg.at (at_getD (l := l) (k := k) (by omega))).h1
    by_cases e : j = k
    · subst e; omega
    · have := ih (by omega) (by omega)
      omega
theorem base_nn {l : List Per} (hg : Gds l) {j : Nat} (h : j < l.length) : 0 ≤ base l j := V_nn hg (Nat.le_refl _) h (Int.le_refl _)
theorem lines_loop (l : List Per) (hg : Gds l) (hl : l.length ≤ 500) : ∀ (k : Nat) (s4 : Sl), k ≤ l.length → ∃ t4, loopS (tgN 4) b_cost_lines_1 ((List.range k).map fun k : Nat => PyData.int (k : Int)).reverse [.va (rowsD l), .va (intsL ((List.range l.length).map (base l))), .va (.int (rate l k)), .ow ((List.range' k (l.length - k)).map (lineD l)).reverse, s4] = .nx [.va (rowsD l), .va (intsL ((List.range l.length).map (base l))), .va (.int (rate l 0)), .ow ((List.range' 0 l.length).map (lineD l)).reverse, t4]
  | 0, s4, _ => ⟨s4, by simp [loopS]⟩
  | k + 1, s4, hk => by
    have x1 := at_getD (l := l) (k := k) (by omega)
    have rx := row_at x1
    have rb : sIx (intsL ((List.range l.length).map (base l))) (.int (k : Int)) = .ok (.int (base l k)) := by
      refine ix_map ?_
      rw [List.getElem?_map, List.getElem?_range (by omega)]
      rfl
    obtain ⟨t4, e⟩ := lines_loop l hg hl k (.va (.int k)) (by omega)
    refine ⟨t4, ?_⟩
    rw [← e, List.range_succ, List.map_append, List.map_singleton, List.reverse_append, List.reverse_singleton]
    have hz : ((List.range' (k + 1) (l.length - (k + 1))).map (lineD l)).length < sizeLine := lt_size (by simp; omega)
    have rs := rate_succ (l := l) (k := k) (by omega)
    have ll : ((List.range' (k + 1) (l.length - (k + 1))).map (lineD l)).reverse ++ [.tuple [.int (base l k), .int (rate l k)]] = ((List.range' k (l.length - k)).map (lineD l)).reverse := by
      rw [show l.length - k = (l.length - (k + 1)) + 1 by omega, List.range'_succ, List.map_cons, List.reverse_cons]
      rfl
    rw [rs] at ll ⊢
    generalize (List.range l.length).map (base l) = B at *
    generalize l.getD k P0 = x at *
    generalize ((List.range' (k + 1) (l.length - (k + 1))).map (lineD l)) = A at *
    generalize ((List.range' k (l.length - k)).map (lineD l)).reverse = A' at *
    simp [loopS, b_cost_lines_1, rx, rb, hz, ll]
theorem lines_ok (l : List Per) (hg : Gds l) (hl : l.length ≤ 500) : f_cost_lines [rowsD l] = .ok (linesD l) := by
  rw [u_cost_lines]
  unfold g_cost_lines
  have lc := least_ok l hg hl
  have la := last_ok l (costs l l.length) l.length 0 hg (Nat.le_refl _) (by rw [costs_len]; omega) hl (Int.le_refl _) (by have := BC_big; have := BB_pos; omega)
  rw [last_V l l.length l.length 0 (by omega)] at la
  obtain ⟨t4, e⟩ := lines_loop l hg hl l.length .un (Nat.le_refl _)
  rw [rate_end, Nat.sub_self, ← List.range_eq_range'] at e
  have r := rg1_map l.length (by omega)
  have bb : ((List.range l.length).map fun j => V l l.length j 0) = (List.range l.length).map (base l) := rfl
  rw [bb] at la
  unfold linesD
  generalize (List.range l.length).map (base l) = B at *
  generalize (List.range l.length).map (lineD l) = A at *
  generalize costs l l.length = cs at *
  simp [List.range'] at e
  simp [lc, la, r, e]
theorem max_ints {o : List Int} (h : o ≠ []) : sMax (intsL o) = .ok (.int (lmax o)) := by
  cases o with
  | nil => exact absurd rfl h
  | cons n ns =>
    show (match intsD ((n :: ns).map PyData.int) with | some (n :: ns) => Rs.ok (PyData.int (lmax (n :: ns))) | _ => Rs.stuck) = _
    rw [intsD_map]
def gF (l : List Per) (cap : Int) : Int := lmax (0 :: (List.range l.length).map fun j => (LC l 0 + cap - 1 - base l j) / rate l j)
theorem gF_nn (l : List Per) (cap : Int) : 0 ≤ gF l cap := lmax_le (List.mem_cons_self)
theorem LC_mono {l : List Per} (hg : Gds l) {e e' : Int} (h0 : 0 ≤ e) (h : e ≤ e') (hn : 0 < e' → 0 < l.length) : LC l e ≤ LC l e' := by
  by_cases z : e' = 0
  · have : e = 0 := by omega
    subst this; subst z; exact Int.le_refl _
  · have hp := hn (by omega)
    obtain ⟨j, h1, h2⟩ := LC_at hp z
    rw [h2]
    refine Int.le_trans (LC_le hg h1) ?_
    rw [line_at, line_at]
    have := Int.mul_le_mul_of_nonneg_left h (show 0 ≤ rate l j by have := rate_pos hg h1; omega)
    omega
theorem LC_inc {l : List Per} (hg : Gds l) {e e' : Int} (h0 : 0 ≤ e) (h : e < e') (hp : 0 < l.length) : LC l e < LC l e' := by
  obtain ⟨j, h1, h2⟩ := LC_at (e := e') hp (by omega)
  rw [h2]
  refine Int.lt_of_le_of_lt (LC_le hg h1) ?_
  rw [line_at, line_at]
  have := Int.mul_lt_mul_of_pos_left h (show 0 < rate l j by have := rate_pos hg h1; omega)
  omega
theorem hc_bd : ∀ (l : List Per) (e u : Int), Gds l → 0 ≤ e → dsum l + e ≤ u → hc l e ≤ rt l * u
  | [], e, u, _, _, _ => by simp [hc, rt]
  | x :: r, e, u, hg, he, hu => by
    have h1 := hg.head.h1
    have h3 := hg.head.d0
    rw [dsum_cons] at hu
    have ih := hc_bd r e u hg.tail he (by omega)
    have := Int.mul_le_mul_of_nonneg_left (show dsum r + e ≤ u by omega) (show 0 ≤ x.2.2 by omega)
    unfold hc rt
    rw [Int.add_mul]
    omega
theorem LC_bd {l : List Per} (hg : Gds l) (hs : Sml l) (hl : l.length ≤ 64) {e : Int} (h0 : 0 ≤ e) (he : e ≤ BB) : LC l e ≤ 5000 * BC := by
  have b1 := BC_big
  have b2 := BB_pos
  by_cases hp : 0 < l.length
  · refine Int.le_trans (LC_le hg hp) ?_
    unfold V
    rw [seg_all, List.drop_zero, C_zero]
    have s0 : setup l 0 ≤ BB := (hs _ (List.mem_of_getElem? (at_getD hp))).2
    have d1 := dsum_sm l hs
    have d2 := mul_BB hl
    have r1 := rt_le l hg
    have r0 := rt_nn l hg
    have h1 := hc_bd l e (65 * BB) hg h0 (by omega)
    have h2 : rt l * (65 * BB) ≤ 64 * BB * (65 * BB) := Int.mul_le_mul_of_nonneg_right (by omega) (by omega)
    have h3 : 64 * BB * (65 * BB) = 4160 * BC := by unfold BC; grind
    omega
  · have : l = [] := List.eq_nil_of_length_eq_zero (by omega)
    subst this
    unfold LC
    split
    · show (0 : Int) ≤ _; omega
    · show (0 : Int) ≤ _; omega
theorem greatest_none (l : List Per) (hg : Gds l) (h : l ≠ []) : f_greatest_forced [rowsD l, .none] = .ok .none := by
  rw [u_greatest_forced]
  unfold g_greatest_forced
  have c := check_ok l hg
  simp [c, h]
theorem greatest_ok (l : List Per) (cap : Int) (hg : Gds l) (hl : l.length ≤ 500) (h : l ≠ []) : f_greatest_forced [rowsD l, .int cap] = .ok (.int (gF l cap)) := by
  rw [u_greatest_forced]
  unfold g_greatest_forced
  have c := check_ok l hg
  have b1 := BC_big
  have b2 := BB_pos
  have lc := least_cost_ok l 0 hg hl (Int.le_refl _) (by omega) (fun z => by omega)
  have li := lines_ok l hg hl
  have cc : c_greatest_forced_1 [.va (rowsD l), .va (.int cap), .va (.int (LC l 0 + cap - 1)), .un, .un] = .ok (intsL ((List.range l.length).map fun j => (LC l 0 + cap - 1 - base l j) / rate l j)) := by
    unfold c_greatest_forced_1
    have := comp_list (vs := [3, 4]) (f := iLst (fCall f_cost_lines (aCons (fV 0) aNil))) (tg := tgT [(tgN 3), (tgN 4)]) (e := fBin sDiv (fBin sSub (fV 2) (fV 3)) (fV 4)) (ρ := [.va (rowsD l), .va (.int cap), .va (.int (LC l 0 + cap - 1)), .un, .un]) (lineD l) (fun j => PyData.int ((LC l 0 + cap - 1 - base l j) / rate l j)) (List.range l.length) (by simp; omega) (by simp [li, linesD]) rfl fun j hj => by
      have hj := List.mem_range.mp hj
      have r1 := rate_pos hg hj
      have r2 := rate_le hg j
      have r3 := mul_BB hl
      have dv := divC (x := LC l 0 + cap - 1 - base l j) r1 (by omega)
      exact ⟨_, rfl, by simp [dv]⟩
    rw [this]
    unfold intsL
    rw [List.map_map]
    rfl
  have mx := max_ints (o := 0 :: (List.range l.length).map fun j => (LC l 0 + cap - 1 - base l j) / rate l j) (by simp)
  have ad : sAdd (.list [.int 0]) (intsL ((List.range l.length).map fun j => (LC l 0 + cap - 1 - base l j) / rate l j)) = .ok (intsL (0 :: (List.range l.length).map fun j => (LC l 0 + cap - 1 - base l j) / rate l j)) := by
    have hz : [PyData.int 0].length + (((List.range l.length).map fun j => (LC l 0 + cap - 1 - base l j) / rate l j).map PyData.int).length ≤ sizeLine := le_size (by simp; omega)
    unfold intsL sAdd
    dsimp only
    rw [if_pos hz]
    rfl
  unfold gF
  generalize ((List.range l.length).map fun j => (LC l 0 + cap - 1 - base l j) / rate l j) = Q at *
  simp [c, h, lc, cc, ad, mx]
end Lw

namespace Lw
open PySem Ct L2
theorem line_loop (L R : D) (K : List D) (s3 : Sl) : ∀ (l : List Per) (b r : Int) (s6 s7 s8 : Sl), Gds l → 0 ≤ r → r + rt l ≤ 1000 * BB → ∃ t6 t7 t8, loopS (tgT [(tgN 6), (tgN 7), (tgN 8)]) b_law_lines_1 (l.map pd) [.va L, .va R, .ow K, s3, .va (.int b), .va (.int r), s6, s7, s8] = .nx [.va L, .va R, .ow K, s3, .va (.int (b + hc l 0 + r * dsum l)), .va (.int (r + rt l)), t6, t7, t8]
  | [], b, r, s6, s7, s8, _, _, _ => ⟨s6, s7, s8, by simp [loopS, hc, rt]⟩
  | x :: l, b, r, s6, s7, s8, hg, hr, hb => by
    have h1 := hg.head.h1
    have h2 := hg.head.hb
    have h3 := hg.head.d0
    have h4 := hg.head.db
    have rn := rt_nn l hg.tail
    have b1 := BC_big
    have b2 := BB_pos
    have rtc : rt (x :: l) = x.2.2 + rt l := rfl
    rw [rtc] at hb
    obtain ⟨t6, t7, t8, e⟩ := line_loop L R K s3 l (b + r * x.1) (r + x.2.2) (.va (.int x.1)) (.va (.int x.2.1)) (.va (.int x.2.2)) hg.tail (by omega) (by omega)
    refine ⟨t6, t7, t8, ?_⟩
    have e1 : b + hc (x :: l) 0 + r * dsum (x :: l) = b + r * x.1 + hc l 0 + (r + x.2.2) * dsum l := by
      have h0 : hc (x :: l) 0 = x.2.2 * (dsum l + 0) + hc l 0 := rfl
      rw [dsum_cons, h0]
      grind
    have e2 : r + rt (x :: l) = r + x.2.2 + rt l := by rw [rtc]; omega
    rw [e1, e2, ← e]
    have m := mulC (x := r) (y := x.1) (by omega) (by omega) (by omega) (by omega)
    simp [loopS, b_law_lines_1, pd, m]
theorem llines_loop (l : List Per) (hg : Gds l) (hl : l.length ≤ 500) : ∀ (m k : Nat) (s3 s4 s5 s6 s7 s8 : Sl), k + m = l.length → ∃ t3 t4 t5 t6 t7 t8, loopS (tgN 3) b_law_lines_2 ((List.range' k m).map fun k : Nat => PyData.int (k : Int)) [.va (rowsD l), .va (intsL (costs l l.length)), .ow ((List.range k).map (lineD l)), s3, s4, s5, s6, s7, s8] = .nx [.va (rowsD l), .va (intsL (costs l l.length)), .ow ((List.range l.length).map (lineD l)), t3, t4, t5, t6, t7, t8]
  | 0, k, s3, s4, s5, s6, s7, s8, h => ⟨s3, s4, s5, s6, s7, s8, by simp at h; subst h; simp [loopS]⟩
  | m + 1, k, s3, s4, s5, s6, s7, s8, h => by
    have x1 := at_getD (l := l) (k := k) (by omega)
    have rx := row_at x1
    have rc : sIx (intsL (costs l l.length)) (.int (k : Int)) = .ok (.int (C l k)) := ix_map (costs_at l l.length k (by omega))
    have b0 := rt_le (l.drop k) (hg.drop k)
    have b1 : ((l.drop k).length : Int) * BB ≤ 500 * BB := mul_BB (b := 500) (by simp; omega)
    have b2 := BB_pos
    obtain ⟨u6, u7, u8, ei⟩ := line_loop (rowsD l) (intsL (costs l l.length)) ((List.range k).map (lineD l)) (.va (.int k)) (l.drop k) (C l k + setup l k) 0 s6 s7 s8 (hg.drop k) (Int.le_refl _) (by omega)
    have eb : C l k + setup l k + hc (l.drop k) 0 + 0 * dsum (l.drop k) = base l k := by
      unfold base V
      rw [seg_all]
      omega
    have er : 0 + rt (l.drop k) = rate l k := by unfold rate; omega
    rw [eb, er] at ei
    obtain ⟨t3, t4, t5, t6, t7, t8, e⟩ := llines_loop l hg hl m (k + 1) (.va (.int k)) (.va (.int (base l k))) (.va (.int (rate l k))) u6 u7 u8 (by omega)
    refine ⟨t3, t4, t5, t6, t7, t8, ?_⟩
    rw [← e, List.range'_succ, List.range_succ, List.map_append, List.map_singleton]
    have hs : setup l k = (l.getD k P0).2.1 := rfl
    rw [hs] at ei
    have sl := ks_d0 l k
    have hz : ((List.range k).map (lineD l)).length < sizeLine := lt_size (by simp; omega)
    have ll : lineD l k = .tuple [.int (base l k), .int (rate l k)] := rfl
    rw [ll]
    generalize l.getD k P0 = x at *
    generalize l.drop k = ld at *
    generalize (List.range k).map (lineD l) = A at *
    generalize costs l l.length = cs at *
    simp [loopS, b_law_lines_2, rc, rx, sl, ei, hz]
theorem law_lines_ok (l : List Per) (hg : Gds l) (hl : l.length ≤ 500) : f_law_lines [rowsD l] = .ok (linesD l) := by
  rw [u_law_lines]
  unfold g_law_lines
  have c := law_costs_ok l hg hl
  obtain ⟨t3, t4, t5, t6, t7, t8, e⟩ := llines_loop l hg hl l.length 0 .un .un .un .un .un .un (by omega)
  rw [← List.range_eq_range'] at e
  have r := rg1_map l.length (by omega)
  unfold linesD
  generalize (List.range l.length).map (lineD l) = A at *
  generalize costs l l.length = cs at *
  simp at e
  simp [c, r, e]
theorem line_ix {l : List Per} {k : Int} (h0 : 0 ≤ k) (h : k < l.length) : sIx (linesD l) (.int k) = .ok (.tuple [.int (base l k.toNat), .int (rate l k.toNat)]) := by
  refine ix_mapI (p := lineD l) (x := k.toNat) h0 ?_
  rw [List.getElem?_range (by omega)]
@[simp] theorem lines_len (l : List Per) : sLen (linesD l) = .ok (.int (l.length : Int)) := by simp [linesD]
theorem C_bd {l : List Per} (hg : Gds l) (hs : Sml l) (hl : l.length ≤ 64) {k : Nat} (hk : k ≤ l.length) : C l k ≤ 5000 * BC := by
  have := LC_bd (hg.take k) (hs.take k) (by rw [List.length_take]; omega) (Int.le_refl 0) (by have := BB_pos; omega)
  have e : (l.take k).length = k := by rw [List.length_take]; omega
  rw [LC_zero, e, C_take (Nat.le_refl _) hk] at this
  exact this
theorem base_bd {l : List Per} (hg : Gds l) (hs : Sml l) (hl : l.length ≤ 64) {k : Nat} (hk : k < l.length) : base l k ≤ 10000 * BC := by
  have b1 := BC_big
  have b2 := BB_pos
  have c := C_bd hg hs hl (k := k) (by omega)
  have s0 : setup l k ≤ BB := (hs _ (List.mem_of_getElem? (at_getD hk))).2
  have d1 := dsum_sm _ (hs.drop k)
  have d2 := mul_BB (show (l.drop k).length ≤ 64 by simp; omega)
  have r1 := rt_le _ (hg.drop k)
  have r0 := rt_nn _ (hg.drop k)
  have h1 := hc_bd (l.drop k) 0 (64 * BB) (hg.drop k) (Int.le_refl _) (by omega)
  have h2 : rt (l.drop k) * (64 * BB) ≤ 64 * BB * (64 * BB) := Int.mul_le_mul_of_nonneg_right (by omega) (by omega)
  have h3 : 64 * BB * (64 * BB) = 4096 * BC := by unfold BC; grind
  unfold base V
  rw [seg_all]
  omega
theorem ediv_abs {a b B : Int} (hb : 1 ≤ b) (h1 : -B ≤ a) (h2 : a ≤ B) (h3 : 0 ≤ B) : -B ≤ a / b ∧ a / b ≤ B := by
  constructor
  · refine (Int.le_ediv_iff_mul_le (by omega)).mpr ?_
    have := Int.mul_le_mul_of_nonneg_left hb (show 0 ≤ B by omega)
    rw [Int.neg_mul]
    omega
  · by_cases c : 0 ≤ a
    · have := Int.ediv_le_self b c
      omega
    · have := Int.ediv_neg_of_neg_of_pos (show a < 0 by omega) (show 0 < b by omega)
      omega
theorem grown_ok (ns : List Int) (m : Int) (h : 1 ≤ m) : ∃ g : Int, 1 ≤ g ∧ g ≤ max m 6 ∧ f_law_grown [scriptD ns, .int m] = .ok (.int g) := by
  obtain ⟨c, c0, e⟩ := number_is ns 0 (by decide) (by decide)
  rw [u_law_grown]
  unfold g_law_grown
  have d := dv_ok c 144 (by decide) (by unfold Sm; omega)
  have m6 : ∀ i : Int, sMod (.int i) (.int 6) = .ok (.int (i % 6)) := fun i => q_sMod (by decide)
  by_cases h1 : m = 1
  · by_cases h2 : 0 < ns.length
    · exact ⟨1 + c / 144 % 6, by omega, by omega, by simp [h1, h2, e, d, m6]⟩
    · exact ⟨m, by omega, by omega, by simp [h1, h2]⟩
  · exact ⟨m, by omega, by omega, by simp [h1]⟩
end Lw

namespace Lw
open PySem Ct L2
theorem drop_at {α : Type} {L l : List α} {k : Nat} {x : α} (h : L.drop k = x :: l) : L[k]? = some x ∧ L.drop (k + 1) = l := by
  constructor
  · have : (L.drop k)[0]? = some x := by rw [h]; rfl
    rwa [List.getElem?_drop, Nat.add_zero] at this
  · have : (L.drop k).drop 1 = l := by rw [h]; rfl
    rwa [List.drop_drop] at this
def feas : Int → List Per → List Int → Prop
  | _, _, [] => True
  | _, [], _ :: _ => False
  | st, x :: l, q :: o => 0 ≤ q ∧ 0 ≤ st + (q - x.1) ∧ feas (st + (q - x.1)) l o
def stk : Int → List Per → List Int → List Int
  | st, x :: l, q :: o => (st + (q - x.1)) :: stk (st + (q - x.1)) l o
  | _, _, _ => []
def pco : Int → List Per → List Int → Int
  | st, x :: l, q :: o => (if 0 < q then x.2.1 else 0) + x.2.2 * (st + (q - x.1)) + pco (st + (q - x.1)) l o
  | _, _, _ => 0
def leanB : Int → List Per → List Int → Bool
  | st, x :: l, q :: o => !(decide (0 < q) && decide (0 < st)) && leanB (st + (q - x.1)) l o
  | _, _, _ => true
@[simp] theorem feas_nil (st : Int) (l : List Per) : feas st l [] = True := by cases l <;> rfl
@[simp] theorem stk_nil (st : Int) (l : List Per) : stk st l [] = [] := by cases l <;> rfl
@[simp] theorem pco_nil (st : Int) (l : List Per) : pco st l [] = 0 := by cases l <;> rfl
@[simp] theorem leanB_nil (st : Int) (l : List Per) : leanB st l [] = true := by cases l <;> rfl
theorem feas_len : ∀ (st : Int) (l : List Per) (o : List Int), feas st l o → o.length ≤ l.length
  | _, _, [], _ => Nat.zero_le _
  | _, [], _ :: _, h => h.elim
  | st, x :: l, q :: o, h => Nat.succ_le_succ (feas_len _ l o h.2.2)
theorem feas_sum : ∀ (st : Int) (l : List Per) (o : List Int), feas st l o → 0 ≤ o.sum
  | _, _, [], _ => Int.le_refl _
  | _, [], _ :: _, h => h.elim
  | st, x :: l, q :: o, h => by
    have := feas_sum _ l o h.2.2
    have := h.1
    rw [List.sum_cons]
    omega
end Lw

namespace Lw
open PySem Ct L2
structure OrI (l : List Per) (i : Nat) (o : List Int) (st : Int) : Prop where
  ln : o.length = i
  fe : feas 0 l o
  su : o.sum ≤ dsum l
  se : st = o.sum - dsum (l.take i)
  s0 : 0 ≤ st
structure OrS where
  o : List Int
  st : Int
  left : Int
  j0 : Sl
  j1 : Sl
  j2 : Sl
  j3 : Sl
  j4 : Sl
  j5 : Sl
def OrS.R (l : List Per) (m n : Int) (s : OrS) : Rho := [.va (rowsD l), .va (.int m), .va (.int n), .un, .un, .un, .va (.int (dsum l)), .ow (s.o.map PyData.int), .va (.int s.st), .va (.int s.left), s.j0, s.j1, s.j2, s.j3, s.j4, s.j5]
end Lw

namespace Lw
open PySem Ct L2
theorem feas_mem : ∀ (o : List Int) (st : Int) (l : List Per), feas st l o → ∀ q ∈ o, 0 ≤ q
  | [], _, _, _, q, hq => by cases hq
  | p :: o, st, [], h, q, hq => h.elim
  | p :: o, st, x :: l, h, q, hq => by
    rcases List.mem_cons.mp hq with rfl | hq
    · exact h.1
    · exact feas_mem o _ _ h.2.2 q hq
theorem feas_cut : ∀ (o : List Int) (st : Int) (l : List Per), feas st l o → feas st (l.take o.length) o
  | [], st, l, _ => by simp
  | q :: o, st, [], h => h.elim
  | q :: o, st, x :: l, h => ⟨h.1, h.2.1, feas_cut o _ l h.2.2⟩
theorem pco_cut : ∀ (o : List Int) (st : Int) (l : List Per), pco st (l.take o.length) o = pco st l o
  | [], st, l => by simp
  | q :: o, st, [] => by simp
  | q :: o, st, x :: l => by
    show _ + pco _ (l.take o.length) o = _
    rw [pco_cut o]
    rfl
end Lw

namespace Lw
open PySem Ct L2
theorem pco_snoc : ∀ (l : List Per) (o : List Int) (st : Int) (x : Per) (q : Int), o.length = l.length → pco st (l ++ [x]) (o ++ [q]) = pco st l o + (if 0 < q then x.2.1 else 0) + x.2.2 * (st + o.sum - dsum l + (q - x.1))
  | [], [], st, x, q, _ => by simp [pco]
  | [], _ :: _, _, _, _, h => by simp at h
  | _ :: _, [], _, _, _, h => by simp at h
  | y :: l, p :: o, st, x, q, h => by
    have ih := pco_snoc l o (st + (p - y.1)) x q (by simpa using h)
    simp only [List.cons_append, pco, ih, dsum_cons, List.sum_cons]
    rw [show st + (p - y.1) + o.sum - dsum l + (q - x.1) = st + (p + o.sum) - (y.1 + dsum l) + (q - x.1) by omega]
    omega
theorem feas_snoc_iff : ∀ (l : List Per) (o : List Int) (st : Int) (x : Per) (q : Int), o.length = l.length → (feas st (l ++ [x]) (o ++ [q]) ↔ feas st l o ∧ 0 ≤ q ∧ 0 ≤ st + o.sum - dsum l + (q - x.1))
  | [], [], st, x, q, _ => by simp [feas]
  | [], _ :: _, _, _, _, h => by simp at h
  | _ :: _, [], _, _, _, h => by simp at h
  | y :: l, p :: o, st, x, q, h => by
    have ih := feas_snoc_iff l o (st + (p - y.1)) x q (by simpa using h)
    simp only [List.cons_append, feas, ih, dsum_cons, List.sum_cons]
    rw [show st + (p - y.1) + o.sum - dsum l + (q - x.1) = st + (p + o.sum) - (y.1 + dsum l) + (q - x.1) by omega]
    constructor
    · rintro ⟨a, b, c, d, e⟩; exact ⟨⟨a, b, c⟩, d, e⟩
    · rintro ⟨⟨a, b, c⟩, d, e⟩; exact ⟨a, b, c, d, e⟩
theorem snoc_getD (l : List Per) (x : Per) : (l ++ [x]).getD l.length P0 = x := getD_at (by rw [List.getElem?_append_right (Nat.le_refl _), Nat.sub_self]; rfl)
theorem seg_snoc_app (l : List Per) (x : Per) {j : Nat} (h : j ≤ l.length) : seg (l ++ [x]) j (l.length + 1) = seg l j l.length ++ [x] := by
  unfold seg
  rw [List.take_length, List.take_of_length_le (by simp), List.drop_append_of_le_length h]
theorem V_more (l : List Per) (x : Per) {j : Nat} (h : j < l.length) (e : Int) : V (l ++ [x]) (l.length + 1) j e = V l l.length j (x.1 + e) + x.2.2 * e := by
  unfold V setup
  rw [C_app j (by omega), getD_app h, seg_snoc_app l x (by omega), hc_snoc]
  omega
theorem V_new (l : List Per) (x : Per) (e : Int) : V (l ++ [x]) (l.length + 1) l.length e = C l l.length + x.2.1 + x.2.2 * e := by
  unfold V setup
  rw [C_app _ (Nat.le_refl _), snoc_getD, seg_snoc_app l x (Nat.le_refl _), seg_nil]
  simp [hc]
theorem LC_snoc_le (l : List Per) (x : Per) (hg : Gds (l ++ [x])) (e : Int) {j : Nat} (h : j ≤ l.length) : LC (l ++ [x]) e ≤ V (l ++ [x]) (l.length + 1) j e := by
  have := LC_le hg (e := e) (j := j) (by simp; omega)
  simpa using this
theorem C_snoc_z (l : List Per) (x : Per) (h : x.1 = 0) : C (l ++ [x]) (l.length + 1) = C l l.length := by
  rw [C_z (by unfold dem; rw [snoc_getD]; exact h), C_app _ (Nat.le_refl _)]
theorem WW_lower : ∀ (n : Nat) (l : List Per) (o : List Int), l.length = n → o.length = n → Gds l → feas 0 l o → LC l (o.sum - dsum l) ≤ pco 0 l o
  | 0, l, o, hl, ho, _, _ => by
    have : l = [] := List.eq_nil_of_length_eq_zero hl
    have : o = [] := List.eq_nil_of_length_eq_zero ho
    subst_vars
    simp [LC, C_zero]
  | n + 1, l, o, hl, ho, hg, hf => by
    obtain ⟨l', x, rfl⟩ : ∃ l' x, l = l' ++ [x] := ⟨l.dropLast, l.getLast (by intro z; simp [z] at hl), (List.dropLast_concat_getLast _).symm⟩
    obtain ⟨o', q, rfl⟩ : ∃ o' q, o = o' ++ [q] := ⟨o.dropLast, o.getLast (by intro z; simp [z] at ho), (List.dropLast_concat_getLast _).symm⟩
    have hl : l'.length = n := by simpa using hl
    have ho : o'.length = n := by simpa using ho
    have hg' : Gds l' := fun y hy => hg y (List.mem_append.mpr (.inl hy))
    have hx : Gd x := hg x (List.mem_append.mpr (.inr (List.mem_singleton.mpr rfl)))
    obtain ⟨f1, f2, f3⟩ := (feas_snoc_iff l' o' 0 x q (by omega)).mp hf
    have ih := WW_lower n l' o' hl ho hg' f1
    rw [pco_snoc l' o' 0 x q (by omega)]
    have se : (o' ++ [q]).sum - dsum (l' ++ [x]) = 0 + o'.sum - dsum l' + (q - x.1) := by
      rw [dsum_app, List.sum_append]
      simp
      omega
    rw [se]
    have s0 : 0 ≤ o'.sum - dsum l' := by
      clear hf ih se
      have : ∀ (l : List Per) (o : List Int) (st : Int), 0 ≤ st → o.length = l.length → feas st l o → 0 ≤ st + o.sum - dsum l := by
        intro l
        induction l with
        | nil => intro o st h0 hl _; have : o = [] := List.eq_nil_of_length_eq_zero (by simpa using hl); subst this; simpa using h0
        | cons y l ih =>
          intro o st h0 hl h
          cases o with
          | nil => simp at hl
          | cons p o =>
            have := ih o _ h.2.1 (by simpa using hl) h.2.2
            rw [List.sum_cons, dsum_cons]
            omega
      have := this l' o' 0 (Int.le_refl _) (by omega) f1
      omega
    generalize hst : o'.sum - dsum l' = st at *
    have ee : 0 + o'.sum - dsum l' + (q - x.1) = st + q - x.1 := by omega
    rw [ee] at f3 ⊢
    generalize hE : st + q - x.1 = e at *
    have hh : 0 ≤ x.2.2 * e := Int.mul_nonneg (by have := hx.h1; omega) f3
    by_cases hq : 0 < q
    · rw [if_pos hq]
      have l1 := LC_snoc_le l' x hg e (j := l'.length) (Nat.le_refl _)
      rw [V_new] at l1
      have l2 : C l' l'.length ≤ LC l' st := by
        rw [← LC_zero]
        by_cases hn : 0 < l'.length
        · exact LC_mono hg' (Int.le_refl _) s0 (fun _ => hn)
        · have h1 : l' = [] := List.eq_nil_of_length_eq_zero (by omega)
          have h2 : o' = [] := List.eq_nil_of_length_eq_zero (by omega)
          subst h1; subst h2
          have : st = 0 := by simpa using hst.symm
          rw [this]; exact Int.le_refl _
      omega
    · have q0 : q = 0 := by omega
      subst q0
      rw [if_neg (by omega)]
      have hst2 : st = x.1 + e := by omega
      by_cases hz : st = 0
      · have he : e = 0 := by have := hx.d0; omega
        have hd : x.1 = 0 := by have := hx.d0; omega
        rw [he, LC_zero]
        have := C_snoc_z l' x hd
        rw [hz, LC_zero] at ih
        have l1 : (l' ++ [x]).length = l'.length + 1 := by simp
        rw [l1, this]
        simp
        exact ih
      · have hn : 0 < l'.length := by
          by_cases hn : 0 < l'.length
          · exact hn
          · exfalso
            have h1 : l' = [] := List.eq_nil_of_length_eq_zero (by omega)
            have h2 : o' = [] := List.eq_nil_of_length_eq_zero (by omega)
            subst h1; subst h2
            exact hz (by simpa using hst.symm)
        obtain ⟨j, j1, j2⟩ := LC_at (e := st) hn hz
        have l1 := LC_snoc_le l' x hg e (j := j) (by omega)
        rw [V_more l' x j1, ← hst2, ← j2] at l1
        omega
theorem feas_end : ∀ (l : List Per) (o : List Int) (st : Int), 0 ≤ st → o.length = l.length → feas st l o → 0 ≤ st + o.sum - dsum l
  | [], o, st, h0, hl, _ => by
    have : o = [] := List.eq_nil_of_length_eq_zero (by simpa using hl)
    subst this; simpa using h0
  | y :: l, [], st, h0, hl, h => by simp at hl
  | y :: l, p :: o, st, h0, hl, h => by
    have := feas_end l o _ h.2.1 (by simpa using hl) h.2.2
    rw [List.sum_cons, dsum_cons]
    omega
theorem zeros_feas : ∀ (l : List Per) (st : Int), Gds l → dsum l ≤ st → feas st l (List.replicate l.length 0)
  | [], st, _, _ => by simp
  | x :: l, st, hg, h => by
    rw [dsum_cons] at h
    have := dsum_nn l hg.tail
    have := hg.head.d0
    rw [List.length_cons, List.replicate_succ]
    exact ⟨Int.le_refl _, by omega, zeros_feas l _ hg.tail (by omega)⟩
theorem zeros_cost : ∀ (l : List Per) (e : Int), pco (dsum l + e) l (List.replicate l.length 0) = hc l e
  | [], e => by simp [hc]
  | x :: l, e => by
    have ih := zeros_cost l e
    rw [List.length_cons, List.replicate_succ, dsum_cons]
    have h0 : hc (x :: l) e = x.2.2 * (dsum l + e) + hc l e := rfl
    rw [h0, ← ih]
    show (if (0 : Int) < 0 then x.2.1 else 0) + x.2.2 * (x.1 + dsum l + e + (0 - x.1)) + pco (x.1 + dsum l + e + (0 - x.1)) l (List.replicate l.length 0) = _
    rw [show x.1 + dsum l + e + (0 - x.1) = dsum l + e by omega]
    simp
theorem zeros_sum (n : Nat) : (List.replicate n (0 : Int)).sum = 0 := by
  induction n with
  | zero => rfl
  | succ n ih => rw [List.replicate_succ, List.sum_cons, ih]; rfl
theorem pco_app : ∀ (l m : List Per) (o p : List Int) (st : Int), o.length = l.length → pco st (l ++ m) (o ++ p) = pco st l o + pco (st + o.sum - dsum l) m p
  | [], m, o, p, st, h => by
    have : o = [] := List.eq_nil_of_length_eq_zero (by simpa using h)
    subst this; simp
  | x :: l, m, [], p, st, h => by simp at h
  | x :: l, m, q :: o, p, st, h => by
    have ih := pco_app l m o p (st + (q - x.1)) (by simpa using h)
    simp only [List.cons_append, pco, ih, dsum_cons, List.sum_cons]
    rw [show st + (q - x.1) + o.sum - dsum l = st + (q + o.sum) - (x.1 + dsum l) by omega]
    omega
theorem feas_app : ∀ (l m : List Per) (o p : List Int) (st : Int), o.length = l.length → (feas st (l ++ m) (o ++ p) ↔ feas st l o ∧ feas (st + o.sum - dsum l) m p)
  | [], m, o, p, st, h => by
    have : o = [] := List.eq_nil_of_length_eq_zero (by simpa using h)
    subst this; simp
  | x :: l, m, [], p, st, h => by simp at h
  | x :: l, m, q :: o, p, st, h => by
    have ih := feas_app l m o p (st + (q - x.1)) (by simpa using h)
    simp only [List.cons_append, feas, ih, dsum_cons, List.sum_cons]
    rw [show st + (q - x.1) + o.sum - dsum l = st + (q + o.sum) - (x.1 + dsum l) by omega]
    constructor
    · rintro ⟨a, b, c, d⟩; exact ⟨⟨a, b, c⟩, d⟩
    · rintro ⟨⟨a, b, c⟩, d⟩; exact ⟨a, b, c, d⟩
theorem block_plan (l : List Per) (hg : Gds l) {j : Nat} (hj : j < l.length) {e : Int} (he : 0 ≤ e) (o : List Int) (ho : o.length = j) (hf : feas 0 (l.take j) o) (hs : o.sum = dsum (l.take j)) (hp : 0 < dsum (l.drop j) + e) :
    feas 0 l (o ++ (dsum (l.drop j) + e) :: List.replicate (l.length - j - 1) 0) ∧ pco 0 l (o ++ (dsum (l.drop j) + e) :: List.replicate (l.length - j - 1) 0) = pco 0 (l.take j) o + setup l j + hc (l.drop j) e := by
  have hd : l.drop j = l.getD j P0 :: l.drop (j + 1) := by
    rw [List.drop_eq_getElem_cons hj, List.getD_eq_getElem?_getD, List.getElem?_eq_getElem hj]
    rfl
  have hlen : (l.drop (j + 1)).length = l.length - j - 1 := by rw [List.length_drop]; omega
  have htl : o.length = (l.take j).length := by rw [List.length_take]; omega
  have split : l = l.take j ++ l.drop j := (List.take_append_drop j l).symm
  have x0 := (hg.at (at_getD hj))
  have gt := hg.drop (j + 1)
  have dn := dsum_nn _ gt
  have st0 : (0 : Int) + o.sum - dsum (l.take j) = 0 := by omega
  constructor
  · rw [split]
    rw [← split]
    have := (feas_app (l.take j) (l.drop j) o ((dsum (l.drop j) + e) :: List.replicate (l.length - j - 1) 0) 0 htl).mpr ⟨hf, by
      rw [st0, hd, dsum_cons, ← hlen]
      exact ⟨by have := x0.d0; omega, by omega, zeros_feas _ _ gt (by omega)⟩⟩
    rwa [List.take_append_drop] at this
  · have := pco_app (l.take j) (l.drop j) o ((dsum (l.drop j) + e) :: List.replicate (l.length - j - 1) 0) 0 htl
    rw [List.take_append_drop, st0] at this
    rw [this, Int.add_assoc]
    congr 1
    rw [hd] at hp ⊢
    rw [dsum_cons] at hp ⊢
    have h0 : hc (l.getD j P0 :: l.drop (j + 1)) e = (l.getD j P0).2.2 * (dsum (l.drop (j + 1)) + e) + hc (l.drop (j + 1)) e := rfl
    rw [h0, ← zeros_cost (l.drop (j + 1)) e, hlen]
    show (if 0 < (l.getD j P0).1 + dsum (l.drop (j + 1)) + e then (l.getD j P0).2.1 else 0) + (l.getD j P0).2.2 * (0 + ((l.getD j P0).1 + dsum (l.drop (j + 1)) + e - (l.getD j P0).1)) + pco (0 + ((l.getD j P0).1 + dsum (l.drop (j + 1)) + e - (l.getD j P0).1)) _ _ = _
    rw [if_pos hp, show 0 + ((l.getD j P0).1 + dsum (l.drop (j + 1)) + e - (l.getD j P0).1) = dsum (l.drop (j + 1)) + e by omega]
    unfold setup
    omega
theorem WW_reach : ∀ (n : Nat) (l : List Per) (e : Int), l.length = n → Gds l → 0 ≤ e → (0 < e → l ≠ []) → ∃ o : List Int, o.length = n ∧ feas 0 l o ∧ o.sum = dsum l + e ∧ pco 0 l o = LC l e ∧ (∀ q r, o = q :: r → (∃ k, 1 ≤ k ∧ k ≤ n ∧ q = dsum (l.take k)) ∨ q = dsum l + e) := by
  intro n
  induction n using Nat.strongRecOn with
  | ind n ih =>
    intro l e hl hg he hn
    cases n with
    | zero =>
      have h1 : l = [] := List.eq_nil_of_length_eq_zero hl
      subst h1
      have h0 : e = 0 := by
        by_cases h : 0 < e
        · exact absurd rfl (hn h)
        · omega
      subst h0
      exact ⟨[], rfl, by simp, by simp, by simp [LC, C_zero], fun q r h => by cases h⟩
    | succ n =>
      by_cases hz : e = 0 ∧ dem l n = 0
      · obtain ⟨rfl, hd⟩ := hz
        have lt : (l.take n).length = n := by rw [List.length_take]; omega
        obtain ⟨o, o1, o2, o3, o4, o5⟩ := ih n (by omega) (l.take n) 0 lt (hg.take n) (Int.le_refl _) (fun h => by omega)
        have split : l = l.take n ++ [l.getD n P0] := by
          have := List.take_append_drop n l
          rw [List.drop_eq_getElem_cons (by omega), List.drop_eq_nil_of_le (by omega)] at this
          rw [List.getD_eq_getElem?_getD, List.getElem?_eq_getElem (by omega)]
          exact this.symm
        have hd' : (l.getD n P0).1 = 0 := hd
        have ds : dsum l = dsum (l.take n) := by
          conv => lhs; rw [split]
          rw [dsum_app, dsum_cons, dsum_nil, hd']
          omega
        refine ⟨o ++ [0], by simp [o1], ?_, by simp; omega, ?_, ?_⟩
        · rw [split]
          exact (feas_snoc_iff (l.take n) o 0 (l.getD n P0) 0 (by omega)).mpr ⟨o2, Int.le_refl _, by omega⟩
        · rw [split, pco_snoc (l.take n) o 0 (l.getD n P0) 0 (by omega), ← split, o4, LC_zero, LC_zero, lt, hl, C_z hd, C_take (Nat.le_refl _) (by omega)]
          have : (0 : Int) + o.sum - dsum (l.take n) + (0 - (l.getD n P0).1) = 0 := by omega
          rw [this]
          simp
        · intro q r hqr
          cases o with
          | nil =>
            simp at hqr
            have : n = 0 := by simpa using o1.symm
            refine .inl ⟨1, by omega, by omega, ?_⟩
            rw [List.take_of_length_le (by omega), ds, ← hqr.1]
            have h2 : l.take n = [] := List.eq_nil_of_length_eq_zero (by omega)
            rw [h2]
            rfl
          | cons p o =>
            simp at hqr
            rcases o5 p o rfl with ⟨k, k1, k2, k3⟩ | k3
            · refine .inl ⟨k, k1, by omega, ?_⟩
              rw [← hqr.1, k3, List.take_take, Nat.min_eq_left k2]
            · exact .inr (by rw [← hqr.1, k3, ds])
      · -- the last order stands at j
        have hat : ∃ j, j < l.length ∧ LC l e = V l l.length j e := by
          by_cases h0 : e = 0
          · subst h0
            have hd : dem l n ≠ 0 := fun z => hz ⟨rfl, z⟩
            obtain ⟨j, j1, j2⟩ := C_at hd
            exact ⟨j, by omega, by rw [LC_zero, hl]; exact j2⟩
          · exact LC_at (by omega) h0
        obtain ⟨j, j1, j2⟩ := hat
        have lt : (l.take j).length = j := by rw [List.length_take]; omega
        obtain ⟨o, o1, o2, o3, o4, o5⟩ := ih j (by omega) (l.take j) 0 lt (hg.take j) (Int.le_refl _) (fun h => by omega)
        have hp : 0 < dsum (l.drop j) + e := by
          have h1 := dsum_nn _ (hg.drop j)
          by_cases h0 : 0 < e
          · omega
          · have e0 : e = 0 := by omega
            subst e0
            have hd : dem l n ≠ 0 := fun z => hz ⟨rfl, z⟩
            have hd2 := dem_nn hg n
            have h3 : dsum (l.drop j) = dsum (seg l j n) + dem l n := by
              have hs := seg_snoc (l := l) (k := j) (n := n) (by omega) (by omega)
              have ha : seg l j (n + 1) = l.drop j := by rw [← hl, seg_all]
              rw [← ha, hs, dsum_app]
              simp [dem]
            have h4 := dsum_nn _ (hg.seg j n)
            omega
        obtain ⟨b1, b2⟩ := block_plan l hg j1 he o o1 o2 (by omega) hp
        have dsplit : dsum l = dsum (l.take j) + dsum (l.drop j) := by rw [← dsum_app, List.take_append_drop]
        refine ⟨_, ?_, b1, ?_, ?_, ?_⟩
        · simp [o1]; omega
        · rw [List.sum_append, List.sum_cons, zeros_sum]; omega
        · rw [b2, o4, j2, LC_zero, lt, C_take (Nat.le_refl _) (by omega)]
          unfold V
          rw [seg_all]
        · intro q r hqr
          cases o with
          | nil =>
            simp at hqr
            have : j = 0 := by simpa using o1.symm
            subst this
            exact .inr (by rw [← hqr.1, List.drop_zero])
          | cons p o =>
            simp at hqr
            rcases o5 p o rfl with ⟨k, k1, k2, k3⟩ | k3
            · refine .inl ⟨k, k1, by omega, ?_⟩
              rw [← hqr.1, k3, List.take_take, Nat.min_eq_left k2]
            · have : 1 ≤ j := by simp at o1; omega
              exact .inl ⟨j, this, by omega, by rw [← hqr.1, k3]; omega⟩
end Lw

namespace Lw
open PySem Ct L2
end Lw

namespace Lw
open PySem Ct L2
def net : Int → List Per → List Per
  | _, [] => []
  | c, x :: r => (x.1 - min x.1 c, x.2.1, x.2.2) :: net (c - min x.1 c) r
def car : Int → List Per → Int
  | _, [] => 0
  | c, x :: r => x.2.2 * (c - min x.1 c) + car (c - min x.1 c) r
@[simp] theorem net_len : ∀ (l : List Per) (c : Int), (net c l).length = l.length
  | [], _ => rfl
  | x :: r, c => by simp [net, net_len r]
theorem net_gds : ∀ (l : List Per) (c : Int), Gds l → 0 ≤ c → Gds (net c l)
  | [], _, _, _ => fun x hx => by cases hx
  | x :: r, c, h, hc => by
    have hx := h.head
    have h0 := hx.d0
    have h1 := hx.db
    intro y hy
    rcases List.mem_cons.mp hy with rfl | hy
    · exact ⟨by show 0 ≤ x.1 - min x.1 c; omega, hx.s0, hx.h1, by show x.1 - min x.1 c ≤ _; omega, hx.hb⟩
    · exact net_gds r _ h.tail (by omega) y hy
theorem net_sum : ∀ (l : List Per) (c : Int), Gds l → 0 ≤ c → c ≤ dsum l → dsum (net c l) = dsum l - c
  | [], c, _, h0, h1 => by simp at h1; simp [net]; omega
  | x :: r, c, h, h0, h1 => by
    have hd := h.head.d0
    have dn := dsum_nn r h.tail
    rw [dsum_cons] at h1
    have := net_sum r (c - min x.1 c) h.tail (by omega) (by omega)
    unfold net
    rw [dsum_cons, dsum_cons, this]
    show x.1 - min x.1 c + _ = _
    omega
theorem pco_net : ∀ (l : List Per) (p : List Int) (c s : Int), p.length = l.length → pco (s + c) l p = car c l + pco s (net c l) p
  | [], [], c, s, _ => by simp [car, net]
  | [], _ :: _, _, _, h => by simp at h
  | _ :: _, [], _, _, h => by simp at h
  | x :: r, q :: p, c, s, h => by
    have ih := pco_net r p (c - min x.1 c) (s + (q - (x.1 - min x.1 c))) (by simpa using h)
    rw [show s + (q - (x.1 - min x.1 c)) + (c - min x.1 c) = s + c + (q - x.1) by omega] at ih
    simp only [pco, car, net, ih]
    have : x.2.2 * (s + c + (q - x.1)) = x.2.2 * (c - min x.1 c) + x.2.2 * (s + (q - (x.1 - min x.1 c))) := by
      rw [← Int.mul_add]
      congr 1
      omega
    omega
theorem feas_net : ∀ (l : List Per) (p : List Int) (c s : Int), p.length = l.length → Gds l → 0 ≤ c → 0 ≤ s → (feas (s + c) l p ↔ feas s (net c l) p)
  | [], [], c, s, _, _, _, _ => by simp
  | [], _ :: _, _, _, h, _, _, _ => by simp at h
  | _ :: _, [], _, _, h, _, _, _ => by simp at h
  | x :: r, q :: p, c, s, h, hg, hc, hs => by
    have hd := hg.head.d0
    constructor
    · rintro ⟨a, b, f⟩
      have e1 : 0 ≤ s + (q - (x.1 - min x.1 c)) := by omega
      refine ⟨a, e1, ?_⟩
      refine (feas_net r p (c - min x.1 c) (s + (q - (x.1 - min x.1 c))) (by simpa using h) hg.tail (by omega) e1).mp ?_
      rw [show s + (q - (x.1 - min x.1 c)) + (c - min x.1 c) = s + c + (q - x.1) by omega]
      exact f
    · rintro ⟨a, b, f⟩
      have e1 : 0 ≤ s + (q - (x.1 - min x.1 c)) := b
      refine ⟨a, by omega, ?_⟩
      have := (feas_net r p (c - min x.1 c) (s + (q - (x.1 - min x.1 c))) (by simpa using h) hg.tail (by omega) e1).mpr f
      rwa [show s + (q - (x.1 - min x.1 c)) + (c - min x.1 c) = s + c + (q - x.1) by omega] at this
def left (l : List Per) (o : List Int) : Int := o.sum - dsum (l.take o.length)
def pfx (l : List Per) (o : List Int) (e : Int) : Int := pco 0 l o + car (left l o) (l.drop o.length) + LC (net (left l o) (l.drop o.length)) e
theorem pco_len : ∀ (l : List Per) (o : List Int) (st : Int), pco st (l.take o.length) o = pco st l o := fun l o st => pco_cut o st l
theorem left_nn {l : List Per} {o : List Int} (h : feas 0 l o) : 0 ≤ left l o := by
  have h1 := feas_cut o 0 l h
  have h2 := feas_len 0 l o h
  have := feas_end (l.take o.length) o 0 (Int.le_refl _) (by rw [List.length_take]; omega) h1
  unfold left
  omega
theorem left_le {l : List Per} {o : List Int} (h : o.sum ≤ dsum l) : left l o ≤ dsum (l.drop o.length) := by
  have : dsum l = dsum (l.take o.length) + dsum (l.drop o.length) := by rw [← dsum_app, List.take_append_drop]
  unfold left
  omega
theorem plan_split {l : List Per} {o p : List Int} (hp : (o ++ p).length = l.length) : pco 0 l (o ++ p) = pco 0 l o + car (left l o) (l.drop o.length) + pco 0 (net (left l o) (l.drop o.length)) p := by
  rw [List.length_append] at hp
  have h1 := pco_app (l.take o.length) (l.drop o.length) o p 0 (by rw [List.length_take]; omega)
  rw [List.take_append_drop, pco_len] at h1
  rw [h1, Int.add_assoc, ← pco_net (l.drop o.length) p (left l o) 0 (by rw [List.length_drop]; omega)]
  unfold left
  rw [show (0 : Int) + o.sum - dsum (l.take o.length) = 0 + (o.sum - dsum (l.take o.length)) by omega]
theorem plan_feas {l : List Per} {o p : List Int} (hg : Gds l) (ho : feas 0 l o) (hp : (o ++ p).length = l.length) : feas 0 l (o ++ p) ↔ feas 0 (net (left l o) (l.drop o.length)) p := by
  rw [List.length_append] at hp
  have h1 := feas_app (l.take o.length) (l.drop o.length) o p 0 (by rw [List.length_take]; omega)
  rw [List.take_append_drop] at h1
  have h2 := feas_net (l.drop o.length) p (left l o) 0 (by rw [List.length_drop]; omega) (hg.drop _) (left_nn ho) (Int.le_refl _)
  rw [h1, ← h2]
  unfold left
  rw [show (0 : Int) + o.sum - dsum (l.take o.length) = 0 + (o.sum - dsum (l.take o.length)) by omega]
  constructor
  · rintro ⟨_, b⟩; exact b
  · exact fun b => ⟨feas_cut o 0 l ho, b⟩
theorem net_left {l : List Per} {o : List Int} (hg : Gds l) (ho : feas 0 l o) (hs : o.sum ≤ dsum l) : dsum (net (left l o) (l.drop o.length)) = dsum l - o.sum := by
  rw [net_sum _ _ (hg.drop _) (left_nn ho) (left_le hs)]
  have : dsum l = dsum (l.take o.length) + dsum (l.drop o.length) := by rw [← dsum_app, List.take_append_drop]
  unfold left
  omega
theorem pfx_lower {l : List Per} {o p : List Int} {e : Int} (hg : Gds l) (ho : feas 0 l o) (hs : o.sum ≤ dsum l) (hp : (o ++ p).length = l.length) (hf : feas 0 l (o ++ p)) (he : o.sum + p.sum = dsum l + e) : pfx l o e ≤ pco 0 l (o ++ p) := by
  rw [plan_split hp]
  have f := (plan_feas hg ho hp).mp hf
  have w := WW_lower p.length (net (left l o) (l.drop o.length)) p (by rw [net_len, List.length_drop]; rw [List.length_append] at hp; omega) rfl (net_gds _ _ (hg.drop _) (left_nn ho)) f
  rw [net_left hg ho hs, show p.sum - (dsum l - o.sum) = e by omega] at w
  unfold pfx
  omega
theorem pfx_reach {l : List Per} {o : List Int} {e : Int} (hg : Gds l) (ho : feas 0 l o) (hs : o.sum ≤ dsum l) (he : 0 ≤ e) (hn : 0 < e → o.length < l.length) : ∃ p : List Int, (o ++ p).length = l.length ∧ feas 0 l (o ++ p) ∧ o.sum + p.sum = dsum l + e ∧ pco 0 l (o ++ p) = pfx l o e ∧ (∀ q r, p = q :: r → (∃ k, 1 ≤ k ∧ k ≤ (l.drop o.length).length ∧ q = dsum ((net (left l o) (l.drop o.length)).take k)) ∨ q = dsum l - o.sum + e) := by
  have hlen := feas_len 0 l o ho
  obtain ⟨p, p1, p2, p3, p4, p5⟩ := WW_reach _ (net (left l o) (l.drop o.length)) e rfl (net_gds _ _ (hg.drop _) (left_nn ho)) he (fun h => by
    have := hn h
    intro z
    have := congrArg List.length z
    rw [net_len, List.length_drop] at this
    simp at this
    omega)
  rw [net_len, List.length_drop] at p1
  rw [net_left hg ho hs] at p3 p5
  have hl : (o ++ p).length = l.length := by rw [List.length_append]; omega
  refine ⟨p, hl, (plan_feas hg ho hl).mpr p2, by omega, ?_, ?_⟩
  · rw [plan_split hl, p4]
    rfl
  · intro q r h
    rcases p5 q r h with ⟨k, k1, k2, k3⟩ | h
    · exact .inl ⟨k, k1, by rw [net_len] at k2; exact k2, k3⟩
    · exact .inr h
theorem pfx_ge {l : List Per} {o : List Int} {e : Int} (hg : Gds l) (ho : feas 0 l o) (hs : o.sum ≤ dsum l) (he : 0 ≤ e) (hn : 0 < e → o.length < l.length) : LC l e ≤ pfx l o e := by
  obtain ⟨p, p1, p2, p3, p4, _⟩ := pfx_reach hg ho hs he hn
  rw [← p4]
  have := WW_lower l.length l (o ++ p) rfl p1 hg p2
  rw [List.sum_append, show o.sum + p.sum - dsum l = e by omega] at this
  exact this
end Lw

namespace Lw
open PySem Ct L2
abbrev lx : List Int → List Int → Bool := _root_.HT.lexLt
theorem lx_cons (x y : Int) (a b : List Int) : lx (x :: a) (y :: b) = if x = y then lx a b else decide (x < y) := rfl
theorem lx_irr : ∀ a : List Int, lx a a = false
  | [] => rfl
  | x :: a => by rw [lx_cons, if_pos rfl]; exact lx_irr a
theorem lx_tot : ∀ {a b : List Int}, lx a b = false → lx b a = false → a = b
  | [], [], _, _ => rfl
  | [], _ :: _, h, _ => by cases h
  | _ :: _, [], _, h => by cases h
  | x :: a, y :: b, h, g => by
    rw [lx_cons] at h g
    by_cases e : x = y
    · subst e
      rw [if_pos rfl] at h g
      rw [lx_tot h g]
    · rw [if_neg e] at h
      rw [if_neg (Ne.symm e)] at g
      have h := of_decide_eq_false h
      have g := of_decide_eq_false g
      omega
theorem lx_trans : ∀ {a b c : List Int}, lx a b = true → lx b c = true → lx a c = true
  | _, [], [], _, h => by cases h
  | [], [], _ :: _, h, _ => by cases h
  | [], _ :: _, [], _, h => by cases h
  | [], _ :: _, _ :: _, _, _ => rfl
  | _ :: _, [], _, h, _ => by cases h
  | _ :: _, _ :: _, [], _, h => by cases h
  | x :: a, y :: b, z :: c, h, g => by
    rw [lx_cons] at h g ⊢
    by_cases e : x = y
    · subst e
      rw [if_pos rfl] at h
      by_cases f : x = z
      · rw [if_pos f] at g ⊢; exact lx_trans h g
      · rw [if_neg f] at g ⊢; exact g
    · rw [if_neg e] at h
      have h := of_decide_eq_true h
      by_cases f : y = z
      · subst f
        rw [if_neg e]; exact decide_eq_true h
      · rw [if_neg f] at g
        have g := of_decide_eq_true g
        rw [if_neg (by omega)]; exact decide_eq_true (by omega)
theorem lx_asym {a b : List Int} (h : lx a b = true) : lx b a = false := by
  cases g : lx b a with
  | false => rfl
  | true => have := lx_trans h g; rw [lx_irr] at this; cases this
theorem lx_le {a b c : List Int} (h : lx b a = false) (g : lx c b = false) : lx c a = false := by
  cases f : lx c a with
  | false => rfl
  | true =>
    cases k : lx a b with
    | true => have := lx_trans f k; rw [g] at this; cases this
    | false => have := lx_tot k h; subst this; rw [g] at f; cases f
theorem lx_app : ∀ (a b t : List Int), a.length = b.length → lx (a ++ t) (b ++ t) = lx a b
  | [], [], t, _ => lx_irr t
  | [], _ :: _, _, h => by simp at h
  | _ :: _, [], _, h => by simp at h
  | x :: a, y :: b, t, h => by
    rw [List.cons_append, List.cons_append, lx_cons, lx_cons, lx_app a b t (by simpa using h)]
theorem split_last : ∀ p : List Int, (∀ x ∈ p, 0 ≤ x) → 0 < p.sum → ∃ p' q z, p = p' ++ q :: List.replicate z 0 ∧ 0 < q
  | [], _, h => by simp at h
  | x :: r, h, hs => by
    have hr : ∀ y ∈ r, 0 ≤ y := fun y hy => h y (List.mem_cons_of_mem _ hy)
    by_cases z : 0 < r.sum
    · obtain ⟨p', q, k, e, hq⟩ := split_last r hr z
      exact ⟨x :: p', q, k, by rw [e]; rfl, hq⟩
    · have : ∀ (r : List Int), (∀ y ∈ r, 0 ≤ y) → 0 ≤ r.sum ∧ (¬ 0 < r.sum → r = List.replicate r.length 0) := by
        intro r
        induction r with
        | nil => intro _; exact ⟨by simp, fun _ => rfl⟩
        | cons y r ih =>
          intro h
          obtain ⟨i1, i2⟩ := ih fun w hw => h w (List.mem_cons_of_mem _ hw)
          have y0 := h y List.mem_cons_self
          rw [List.sum_cons]
          refine ⟨by omega, fun g => ?_⟩
          have : y = 0 := by omega
          subst this
          rw [List.length_cons, List.replicate_succ, ← i2 (by omega)]
      obtain ⟨r0, r1⟩ := this r hr
      have r2 := r1 z
      rw [List.sum_cons] at hs
      exact ⟨[], x, r.length, by rw [← r2]; rfl, by omega⟩
structure Op (l : List Per) (e : Int) (p : List Int) : Prop where
  len : p.length = l.length
  fe : feas 0 l p
  sm : p.sum = dsum l + e
  co : pco 0 l p = LC l e
def tl (l : List Per) (n : Nat) (e : Int) (s : Nat) : List Int := (e + dsum (seg l s n)) :: List.replicate (n - s - 1) 0
theorem LC_take (l : List Per) {n : Nat} (h : n ≤ l.length) (e : Int) : LC (l.take n) e = if e = 0 then C l n else lmin ((List.range n).map fun j => V l n j e) := by
  have ln : (l.take n).length = n := by rw [List.length_take]; omega
  unfold LC
  rw [ln]
  by_cases h0 : e = 0
  · rw [if_pos h0, if_pos h0, C_take (Nat.le_refl _) h]
  · rw [if_neg h0, if_neg h0]
    congr 1
    apply List.map_congr_left
    intro j hj
    have hj := List.mem_range.mp hj
    have := V_app (l := l.take n) (m := l.drop n) (n := n) (j := j) (by omega) hj e
    rw [List.take_append_drop] at this
    exact this.symm
theorem V_take {l : List Per} {n j : Nat} (h : n ≤ l.length) (hj : j < n) (e : Int) : V (l.take n) n j e = V l n j e := by
  have ln : (l.take n).length = n := by rw [List.length_take]; omega
  have := V_app (l := l.take n) (m := l.drop n) (n := n) (j := j) (by omega) hj e
  rw [List.take_append_drop] at this
  exact this.symm
theorem last_plan (l : List Per) (hg : Gds l) {e : Int} (he : 0 ≤ e) (p' : List Int) (q : Int) (z : Nat) (hq : 0 < q) (hl : (p' ++ q :: List.replicate z 0).length = l.length) (hf : feas 0 l (p' ++ q :: List.replicate z 0)) (hs : (p' ++ q :: List.replicate z 0).sum = dsum l + e) :
    p'.length < l.length ∧ feas 0 (l.take p'.length) p' ∧ 0 ≤ p'.sum - dsum (l.take p'.length) ∧ q + (p'.sum - dsum (l.take p'.length)) = dsum (l.drop p'.length) + e ∧ pco 0 l (p' ++ q :: List.replicate z 0) = pco 0 (l.take p'.length) p' + setup l p'.length + hc (l.drop p'.length) e := by
  obtain ⟨j, hj⟩ : ∃ j, j = p'.length := ⟨_, rfl⟩
  have hjl : j < l.length := by rw [hj, ← hl]; simp
  have hz : z = (l.drop (j + 1)).length := by
    rw [List.length_append, List.length_cons, List.length_replicate] at hl
    rw [List.length_drop]; omega
  have hd : l.drop j = l.getD j P0 :: l.drop (j + 1) := by
    rw [List.drop_eq_getElem_cons hjl, List.getD_eq_getElem?_getD, List.getElem?_eq_getElem hjl]
    rfl
  have htl : p'.length = (l.take j).length := by rw [List.length_take]; omega
  rw [← hj]
  have f := feas_app (l.take j) (l.drop j) p' (q :: List.replicate z 0) 0 htl
  have c := pco_app (l.take j) (l.drop j) p' (q :: List.replicate z 0) 0 htl
  rw [List.take_append_drop] at f c
  obtain ⟨f1, f2⟩ := f.mp hf
  have st := feas_end (l.take j) p' 0 (Int.le_refl _) htl f1
  have ds : dsum l = dsum (l.take j) + dsum (l.drop j) := by rw [← dsum_app, List.take_append_drop]
  rw [List.sum_append, List.sum_cons, zeros_sum] at hs
  have hS : (0 : Int) + p'.sum - dsum (l.take j) = p'.sum - dsum (l.take j) := by omega
  rw [hS] at c f2 st
  generalize p'.sum - dsum (l.take j) = S at *
  have hqs : q + S = dsum (l.drop j) + e := by omega
  refine ⟨hjl, f1, st, hqs, ?_⟩
  rw [c, Int.add_assoc]
  congr 1
  rw [hd] at hqs ⊢
  rw [dsum_cons] at hqs
  have h0 : hc (l.getD j P0 :: l.drop (j + 1)) e = (l.getD j P0).2.2 * (dsum (l.drop (j + 1)) + e) + hc (l.drop (j + 1)) e := rfl
  rw [h0, ← zeros_cost (l.drop (j + 1)) e, hz]
  show (if 0 < q then (l.getD j P0).2.1 else 0) + (l.getD j P0).2.2 * (S + (q - (l.getD j P0).1)) + pco (S + (q - (l.getD j P0).1)) _ _ = _
  rw [if_pos hq, show S + (q - (l.getD j P0).1) = dsum (l.drop (j + 1)) + e by omega]
  unfold setup
  omega
theorem dem_drop {l : List Per} (hg : Gds l) {j n : Nat} (hj : j ≤ n) (hl : l.length = n + 1) : dem l n ≤ dsum (l.drop j) := by
  have e : l.drop j = (l.drop j).take (n - j) ++ [l.getD n P0] := by
    have h1 : l.drop j = (l.drop j).take (n - j) ++ (l.drop j).drop (n - j) := (List.take_append_drop _ _).symm
    have h2 : l.drop n = [l.getD n P0] := by
      rw [List.drop_eq_getElem_cons (by omega), List.drop_eq_nil_of_le (by omega), List.getD_eq_getElem?_getD, List.getElem?_eq_getElem (by omega)]
      rfl
    rw [List.drop_drop, show j + (n - j) = n by omega, h2] at h1
    exact h1
  have n0 := dsum_nn _ ((hg.drop j).take (n - j))
  rw [e, dsum_app, dsum_cons, dsum_nil]
  unfold dem
  omega
theorem Op_z {l : List Per} (hg : Gds l) {n : Nat} (hl : l.length = n + 1) (hd : dem l n = 0) (p : List Int) : Op l 0 p ↔ ∃ p', p = p' ++ [0] ∧ Op (l.take n) 0 p' := by
  have split : l = l.take n ++ [l.getD n P0] := by
    have := List.take_append_drop n l
    rw [List.drop_eq_getElem_cons (by omega), List.drop_eq_nil_of_le (by omega)] at this
    rw [List.getD_eq_getElem?_getD, List.getElem?_eq_getElem (by omega)]
    exact this.symm
  have lt : (l.take n).length = n := by rw [List.length_take]; omega
  have hd' : (l.getD n P0).1 = 0 := hd
  have ds : dsum l = dsum (l.take n) := by
    conv => lhs; rw [split]
    rw [dsum_app, dsum_cons, dsum_nil, hd']
    omega
  have lc : LC l 0 = LC (l.take n) 0 := by rw [LC_zero, LC_zero, lt, hl, C_z hd, C_take (Nat.le_refl _) (by omega)]
  constructor
  · intro h
    have hpl := h.len
    obtain ⟨o', q, rfl⟩ : ∃ o' q, p = o' ++ [q] := ⟨p.dropLast, p.getLast (by intro z; simp [z] at hpl; omega), (List.dropLast_concat_getLast _).symm⟩
    have ho : o'.length = n := by simp at hpl; omega
    have hf := h.fe
    have hc := h.co
    have hs := h.sm
    rw [split] at hf
    obtain ⟨f1, f2, f3⟩ := (feas_snoc_iff (l.take n) o' 0 (l.getD n P0) q (by omega)).mp hf
    have st := feas_end (l.take n) o' 0 (Int.le_refl _) (by omega) f1
    rw [List.sum_append, List.sum_singleton, ds] at hs
    have q0 : q = 0 := by omega
    subst q0
    refine ⟨o', rfl, ho.trans lt.symm, f1, by omega, ?_⟩
    rw [← lc, ← hc]
    conv => rhs; rw [split]
    rw [pco_snoc (l.take n) o' 0 (l.getD n P0) 0 (by omega)]
    have : (0 : Int) + o'.sum - dsum (l.take n) + (0 - (l.getD n P0).1) = 0 := by omega
    rw [this]
    simp
  · rintro ⟨o, rfl, h⟩
    have ho := h.len
    rw [lt] at ho
    have hs := h.sm
    refine ⟨by simp [ho, hl], ?_, by simp; omega, ?_⟩
    · rw [split]
      exact (feas_snoc_iff (l.take n) o 0 (l.getD n P0) 0 (by omega)).mpr ⟨h.fe, Int.le_refl _, by omega⟩
    · have hc := h.co
      rw [lc, ← hc]
      conv => lhs; rw [split]
      rw [pco_snoc (l.take n) o 0 (l.getD n P0) 0 (by omega)]
      have : (0 : Int) + o.sum - dsum (l.take n) + (0 - (l.getD n P0).1) = 0 := by omega
      rw [this]
      simp
theorem Op_s {l : List Per} (hg : Gds l) {n : Nat} (hl : l.length = n + 1) {e : Int} (he : 0 ≤ e) (h0 : ¬ (e = 0 ∧ dem l n = 0)) (p : List Int) : Op l e p ↔ ∃ s p', s ≤ n ∧ V l (n + 1) s e = LC l e ∧ Op (l.take s) 0 p' ∧ p = p' ++ tl l (n + 1) e s := by
  have sg : ∀ s, seg l s (n + 1) = l.drop s := fun s => by rw [← hl]; exact seg_all
  have dn : 0 ≤ dem l n := dem_nn hg n
  constructor
  · intro h
    have hf := h.fe
    have hs := h.sm
    have hp : 0 < p.sum := by
      have := dem_drop hg (j := 0) (Nat.zero_le n) hl
      rw [List.drop_zero] at this
      omega
    obtain ⟨p', q, z, e1, hq⟩ := split_last p (feas_mem p 0 l hf) hp
    subst e1
    obtain ⟨k1, k2, k3, k4, k5⟩ := last_plan l hg he p' q z hq h.len hf hs
    have hlen := h.len
    rw [List.length_append, List.length_cons, List.length_replicate] at hlen
    obtain ⟨s, hss⟩ : ∃ s, s = p'.length := ⟨_, rfl⟩
    rw [← hss] at k1 k2 k3 k4 k5 hlen
    have lts : (l.take s).length = s := by rw [List.length_take]; omega
    have low := WW_lower s (l.take s) p' lts hss.symm (hg.take s) k2
    have vle : LC l e ≤ V l (n + 1) s e := by rw [← hl]; exact LC_le hg (by omega)
    have hv : V l (n + 1) s e = C l s + setup l s + hc (l.drop s) e := by unfold V; rw [sg]
    have cs : LC (l.take s) 0 = C l s := by rw [LC_zero, lts, C_take (Nat.le_refl _) (by omega)]
    have co := h.co
    rw [k5] at co
    by_cases z0 : p'.sum - dsum (l.take s) = 0
    · rw [z0] at low
      refine ⟨s, p', by omega, by omega, ⟨hss.symm.trans lts.symm, k2, by omega, by omega⟩, ?_⟩
      unfold tl
      rw [sg, show q = e + dsum (l.drop s) by omega, show z = n + 1 - s - 1 by omega]
    · have hs0 : 0 < (l.take s).length := by
        rw [lts]
        rcases Nat.eq_zero_or_pos s with h | h
        · exfalso
          have : p' = [] := List.eq_nil_of_length_eq_zero (by omega)
          exact z0 (by rw [this, h]; simp)
        · exact h
      have := LC_inc (hg.take s) (e := 0) (e' := p'.sum - dsum (l.take s)) (Int.le_refl _) (by omega) hs0
      omega
  · rintro ⟨s, p', s1, s2, h, rfl⟩
    have lts : (l.take s).length = s := by rw [List.length_take]; omega
    have hps := h.len
    rw [lts] at hps
    have hsum := h.sm
    have cs : LC (l.take s) 0 = C l s := by rw [LC_zero, lts, C_take (Nat.le_refl _) (by omega)]
    have ds : dsum l = dsum (l.take s) + dsum (l.drop s) := by rw [← dsum_app, List.take_append_drop]
    have dd := dem_drop hg s1 hl
    obtain ⟨b1, b2⟩ := block_plan l hg (j := s) (by omega) he p' hps h.fe (by omega) (by omega)
    have et : tl l (n + 1) e s = (dsum (l.drop s) + e) :: List.replicate (l.length - s - 1) 0 := by
      unfold tl
      rw [sg, hl, Int.add_comm]
    rw [et]
    have hv : V l (n + 1) s e = C l s + setup l s + hc (l.drop s) e := by unfold V; rw [sg]
    refine ⟨by simp [hps]; omega, b1, ?_, ?_⟩
    · rw [List.sum_append, List.sum_cons, zeros_sum]
      omega
    · rw [b2, h.co, cs, ← s2, hv]
end Lw

namespace Lw
open PySem Ct L2
def lookL (m : List (Int × List Int)) (n : Int) : Option (List Int) := (m.find? fun p => decide (p.1 = n)).map (·.2)
def putL (m : List (Int × List Int)) (n : Int) (d : List Int) : List (Int × List Int) := if (m.any fun p => decide (p.1 = n)) = true then m.map (fun p => if p.1 = n then (p.1, d) else p) else m ++ [(n, d)]
def pm (m : List (Int × List Int)) : List (Int × D) := m.map fun p => (p.1, intsL p.2)
def dD (m : List (Int × List Int)) : D := dictD (pm m)
theorem look_pm (n : Int) : ∀ m : List (Int × List Int), lookI (pm m) n = (lookL m n).map intsL
  | [] => rfl
  | p :: m => by
    have ih := look_pm n m
    unfold lookI lookL pm at *
    rw [List.map_cons, List.find?_cons, List.find?_cons]
    by_cases h : p.1 = n
    · rw [decide_eq_true h]; rfl
    · rw [decide_eq_false h]; exact ih
theorem put_pm (n : Int) (d : List Int) (m : List (Int × List Int)) : putI (pm m) n (intsL d) = pm (putL m n d) := by
  have e : ((pm m).any fun p => decide (p.1 = n)) = m.any fun p => decide (p.1 = n) := by
    unfold pm
    rw [List.any_map]
    rfl
  unfold putI putL
  rw [e]
  split
  · unfold pm
    rw [List.map_map, List.map_map]
    apply List.map_congr_left
    intro p _
    show (if p.1 = n then (p.1, intsL d) else (p.1, intsL p.2)) = ((if p.1 = n then (p.1, d) else p).1, intsL (if p.1 = n then (p.1, d) else p).2)
    by_cases h : p.1 = n
    · simp [h]
    · simp [h]
  · unfold pm
    rw [List.map_append]
    rfl
theorem look_some {m : List (Int × List Int)} {n : Int} {d : List Int} (h : lookL m n = some d) : (n, d) ∈ m := by
  unfold lookL at h
  cases e : m.find? fun p => decide (p.1 = n) with
  | none => rw [e] at h; cases h
  | some p =>
    rw [e] at h
    injection h with h
    have h1 := List.mem_of_find?_eq_some e
    have h2 : p.1 = n := by simpa using List.find?_some e
    rw [← h, ← h2]
    exact h1
theorem look_none {m : List (Int × List Int)} {n : Int} (h : lookL m n = none) : ∀ p ∈ m, p.1 ≠ n := by
  unfold lookL at h
  cases e : m.find? fun p => decide (p.1 = n) with
  | none =>
    intro p hp z
    have := List.find?_eq_none.mp e p hp
    simp [z] at this
  | some p => rw [e] at h; cases h
theorem look_in {m : List (Int × List Int)} {n : Int} {d : List Int} (nd : (m.map (·.1)).Nodup) (h : (n, d) ∈ m) : lookL m n = some d := by
  cases e : lookL m n with
  | none => exact absurd rfl (look_none e _ h)
  | some d' =>
    have h2 := look_some e
    clear e
    induction m with
    | nil => cases h
    | cons p m ih =>
      rw [List.map_cons, List.nodup_cons] at nd
      have key : ∀ {d : List Int}, (n, d) ∈ m → n ∈ m.map (·.1) := fun hd => List.mem_map.mpr ⟨_, hd, rfl⟩
      rcases List.mem_cons.mp h with a | a <;> rcases List.mem_cons.mp h2 with b | b
      · rw [← a] at b; injection b with _ b; rw [b]
      · exact absurd (by rw [← a]; exact key b) nd.1
      · exact absurd (by rw [← b]; exact key a) nd.1
      · exact ih nd.2 a b
structure Lst (P : List Int → Prop) (m : List (Int × List Int)) : Prop where
  nd : (m.map (·.1)).Nodup
  lo : ∀ q p, (q, p) ∈ m → P p ∧ p.head? = some q ∧ ∀ p', P p' → p'.head? = some q → lx p' p = false
  al : ∀ p q, P p → p.head? = some q → ∃ p', (q, p') ∈ m
theorem Lst.nil : Lst (fun _ => False) [] := ⟨List.nodup_nil, fun _ _ h => (by cases h), fun _ _ h => h.elim⟩
theorem Lst.congr {P Q : List Int → Prop} {m : List (Int × List Int)} (h : Lst P m) (e : ∀ p, P p ↔ Q p) : Lst Q m :=
  ⟨h.nd, fun q p hm => by obtain ⟨a, b, c⟩ := h.lo q p hm; exact ⟨(e p).mp a, b, fun p' hp => c p' ((e p').mpr hp)⟩, fun p q hp => h.al p q ((e p).mpr hp)⟩
theorem Lst.look {P : List Int → Prop} {m : List (Int × List Int)} (h : Lst P m) (q : Int) : (∃ p, lookL m q = some p ∧ P p ∧ p.head? = some q ∧ ∀ p', P p' → p'.head? = some q → lx p' p = false) ∨ (lookL m q = none ∧ ∀ p, P p → p.head? ≠ some q) := by
  cases e : lookL m q with
  | none => exact .inr ⟨rfl, fun p hp hq => by obtain ⟨p', hm⟩ := h.al p q hp hq; exact look_none e _ hm rfl⟩
  | some p => exact .inl ⟨p, rfl, h.lo q p (look_some e)⟩
def insL (m : List (Int × List Int)) (q : Int) (p : List Int) : List (Int × List Int) := match lookL m q with
  | none => putL m q p
  | some p0 => if lx p p0 = true then putL m q p else m
theorem any_look (m : List (Int × List Int)) (q : Int) : (m.any fun p => decide (p.1 = q)) = (lookL m q).isSome := by
  unfold lookL
  rw [Option.isSome_map]
  exact (List.find?_isSome_any m q).symm
where
  List.find?_isSome_any (m : List (Int × List Int)) (q : Int) : (m.find? fun p => decide (p.1 = q)).isSome = (m.any fun p => decide (p.1 = q)) := by
    induction m with
    | nil => rfl
    | cons p m ih =>
      rw [List.find?_cons, List.any_cons]
      by_cases h : p.1 = q
      · rw [decide_eq_true h]; rfl
      · rw [decide_eq_false h]; simpa using ih
theorem putL_keys {m : List (Int × List Int)} {q : Int} {p p0 : List Int} (h : lookL m q = some p0) : (putL m q p).map (·.1) = m.map (·.1) := by
  have e : (m.any fun p => decide (p.1 = q)) = true := (any_look m q).trans (by rw [h]; rfl)
  unfold putL
  rw [if_pos e, List.map_map]
  apply List.map_congr_left
  intro x _
  show (if x.1 = q then (x.1, p) else x).1 = x.1
  split <;> rfl
theorem putL_mem {m : List (Int × List Int)} {q : Int} {p p0 : List Int} (h : lookL m q = some p0) (x : Int) (y : List Int) : (x, y) ∈ putL m q p ↔ (x = q ∧ y = p) ∨ (x ≠ q ∧ (x, y) ∈ m) := by
  have e : (m.any fun p => decide (p.1 = q)) = true := (any_look m q).trans (by rw [h]; rfl)
  unfold putL
  rw [if_pos e]
  constructor
  · intro hm
    obtain ⟨z, z1, z2⟩ := List.mem_map.mp hm
    by_cases hz : z.1 = q
    · rw [if_pos hz] at z2
      injection z2 with a b
      exact .inl ⟨a.symm.trans hz, b.symm⟩
    · rw [if_neg hz] at z2
      subst z2
      exact .inr ⟨hz, z1⟩
  · rintro (⟨rfl, rfl⟩ | ⟨hx, hm⟩)
    · exact List.mem_map.mpr ⟨(x, p0), look_some h, by simp⟩
    · exact List.mem_map.mpr ⟨(x, y), hm, by simp [hx]⟩
theorem Lst.ins {P : List Int → Prop} {m : List (Int × List Int)} (h : Lst P m) {p : List Int} {q : Int} (hq : p.head? = some q) : Lst (fun r => P r ∨ r = p) (insL m q p) := by
  unfold insL
  rcases h.look q with ⟨p0, e, h1, h2, h3⟩ | ⟨e, h1⟩
  · rw [e]
    dsimp only
    by_cases hl : lx p p0 = true
    · rw [if_pos hl]
      refine ⟨by rw [putL_keys e]; exact h.nd, fun x y hm => ?_, fun r x hr hx => ?_⟩
      · rcases (putL_mem e x y).mp hm with ⟨rfl, rfl⟩ | ⟨hx, hm⟩
        · refine ⟨.inr rfl, hq, fun p' hp hx' => ?_⟩
          rcases hp with hp | rfl
          · exact lx_le (lx_asym hl) (h3 p' hp hx')
          · exact lx_irr _
        · obtain ⟨a, b, c⟩ := h.lo x y hm
          refine ⟨.inl a, b, fun p' hp hx' => ?_⟩
          rcases hp with hp | rfl
          · exact c p' hp hx'
          · rw [hq] at hx'; injection hx' with hx'; exact absurd hx'.symm hx
      · by_cases z : x = q
        · subst z; exact ⟨p, (putL_mem e x p).mpr (.inl ⟨rfl, rfl⟩)⟩
        · rcases hr with hr | rfl
          · obtain ⟨p', hp⟩ := h.al r x hr hx
            exact ⟨p', (putL_mem e x p').mpr (.inr ⟨z, hp⟩)⟩
          · rw [hq] at hx; injection hx with hx; exact absurd hx.symm z
    · rw [if_neg hl]
      have hl : lx p p0 = false := by simpa using hl
      refine ⟨h.nd, fun x y hm => ?_, fun r x hr hx => ?_⟩
      · obtain ⟨a, b, c⟩ := h.lo x y hm
        refine ⟨.inl a, b, fun p' hp hx' => ?_⟩
        rcases hp with hp | rfl
        · exact c p' hp hx'
        · rw [hq] at hx'; injection hx' with hx'; subst hx'
          have := look_in h.nd hm
          rw [e] at this; injection this with this; rw [← this]; exact hl
      · rcases hr with hr | rfl
        · exact h.al r x hr hx
        · rw [hq] at hx; injection hx with hx; subst hx
          exact ⟨p0, look_some e⟩
  · rw [e]
    dsimp only
    have ea := any_look m q
    rw [e] at ea
    have ep : putL m q p = m ++ [(q, p)] := by
      unfold putL
      rw [if_neg (by rw [ea]; simp)]
    rw [ep]
    have nq := look_none e
    refine ⟨?_, fun x y hm => ?_, fun r x hr hx => ?_⟩
    · rw [List.map_append]
      refine List.nodup_append.mpr ⟨h.nd, by simp, fun a ha b hb => ?_⟩
      obtain ⟨z, z1, z2⟩ := List.mem_map.mp ha
      have : b = q := by simpa using hb
      rw [this, ← z2]
      exact nq z z1
    · rcases List.mem_append.mp hm with hm2 | hm
      · obtain ⟨a, b, c⟩ := h.lo x y hm2
        refine ⟨.inl a, b, fun p' hp hx' => ?_⟩
        rcases hp with hp | rfl
        · exact c p' hp hx'
        · rw [hq] at hx'; injection hx' with hx'; exact absurd hx'.symm (nq (x, y) hm2)
      · have := List.mem_singleton.mp hm
        injection this with a b
        subst a; subst b
        refine ⟨.inr rfl, hq, fun p' hp hx' => ?_⟩
        rcases hp with hp | rfl
        · exact absurd hx' (h1 p' hp)
        · exact lx_irr _
    · rcases hr with hr | rfl
      · obtain ⟨p', hp⟩ := h.al r x hr hx
        exact ⟨p', List.mem_append.mpr (.inl hp)⟩
      · rw [hq] at hx; injection hx with hx; subst hx
        exact ⟨r, List.mem_append.mpr (.inr (List.mem_singleton.mpr rfl))⟩
theorem insL_len (m : List (Int × List Int)) (q : Int) (p : List Int) : (insL m q p).length ≤ m.length + 1 := by
  have : (putL m q p).length ≤ m.length + 1 := by
    unfold putL
    split <;> simp
  unfold insL
  split
  · exact this
  · split
    · exact this
    · omega
theorem Lst.tail {P : List Int → Prop} {m : List (Int × List Int)} {n : Nat} (h : Lst P m) (hn : ∀ p, P p → p.length = n) (hp : 0 < n) (t : List Int) : Lst (fun r => ∃ p, P p ∧ r = p ++ t) (m.map fun p => (p.1, p.2 ++ t)) := by
  have hd : ∀ p, P p → (p ++ t).head? = p.head? := fun p h1 => by
    have := hn p h1
    cases p with
    | nil => simp at this; omega
    | cons x p => rfl
  refine ⟨by rw [List.map_map]; exact h.nd, fun q p hm => ?_, fun p q hp hq => ?_⟩
  · obtain ⟨z, z1, z2⟩ := List.mem_map.mp hm
    injection z2 with a b
    obtain ⟨c1, c2, c3⟩ := h.lo z.1 z.2 z1
    rw [a] at c2 c3
    subst b
    refine ⟨⟨z.2, c1, rfl⟩, by rw [hd _ c1]; exact c2, ?_⟩
    rintro p' ⟨r, hr, rfl⟩ hq
    rw [hd _ hr] at hq
    show lx (r ++ t) (z.2 ++ t) = false
    rw [lx_app _ _ _ ((hn r hr).trans (hn _ c1).symm)]
    exact c3 r hr hq
  · obtain ⟨r, hr, rfl⟩ := hp
    rw [hd _ hr] at hq
    obtain ⟨p', hp'⟩ := h.al r q hr hq
    exact ⟨p' ++ t, List.mem_map.mpr ⟨(q, p'), hp', rfl⟩⟩
def insAll (m : List (Int × List Int)) (ps : List (List Int)) : List (Int × List Int) := ps.foldl (fun a p => insL a (p.headD 0) p) m
theorem Lst.many : ∀ (ps : List (List Int)) {P : List Int → Prop} {m : List (Int × List Int)}, Lst P m → (∀ p ∈ ps, p ≠ []) → Lst (fun r => P r ∨ r ∈ ps) (insAll m ps)
  | [], _, _, h, _ => h.congr fun p => by simp
  | p :: ps, P, m, h, hn => by
    have hp : p.head? = some (p.headD 0) := by
      have := hn p List.mem_cons_self
      cases p with
      | nil => exact absurd rfl this
      | cons x p => rfl
    have := Lst.many ps (h.ins hp) fun r hr => hn r (List.mem_cons_of_mem _ hr)
    exact this.congr fun r => by
      rw [List.mem_cons]
      constructor
      · rintro ((a | a) | a)
        · exact .inl a
        · exact .inr (.inl a)
        · exact .inr (.inr a)
      · rintro (a | a | a)
        · exact .inl (.inl a)
        · exact .inl (.inr a)
        · exact .inr a
end Lw

namespace Lw
open PySem Ct L2
theorem addI {a b : List Int} (h : a.length + b.length ≤ 1000) : sAdd (intsL a) (intsL b) = .ok (intsL (a ++ b)) := by
  have hz : (a.map PyData.int).length + (b.map PyData.int).length ≤ sizeLine := le_size (by simp; omega)
  show (if (a.map PyData.int).length + (b.map PyData.int).length ≤ sizeLine then Rs.ok (PyData.list (a.map PyData.int ++ b.map PyData.int)) else Rs.stuck) = _
  rw [if_pos hz, ← List.map_append]
  rfl
theorem ints_of1 (x : Int) : PyData.list [.int x] = intsL [x] := id rfl
theorem repI (n : Nat) (i : Int) {k : Int} (hk : k = n) (hn : n ≤ 1000) : sMul (intsL [i]) (.int k) = .ok (intsL (List.replicate n i)) := by
  have hz := le_size hn
  subst hk
  unfold intsL sMul
  dsimp only [List.map_cons, List.map_nil]
  rw [if_pos ⟨by omega, by omega, by simp; exact hz⟩]
  simp [-ints_f]
theorem ks_td (l : List Per) {a b : Int} (h0 : 0 ≤ a) (h1 : a ≤ b) (h2 : b ≤ l.length) : kSlice (rowsD l) (some a) (some b) = .ok (rowsD (seg l a.toNat b.toNat)) := by
  obtain ⟨s, rfl⟩ := Int.eq_ofNat_of_zero_le h0
  obtain ⟨n, rfl⟩ := Int.eq_ofNat_of_zero_le (show 0 ≤ b by omega)
  rw [Int.toNat_natCast, Int.toNat_natCast]
  have e : cutD (l.map pd) (some (s : Int)) (some (n : Int)) = (seg l s n).map pd := by
    unfold cutD
    rw [HT.sIx_nat, HT.sIx_nat, List.length_map, Nat.min_eq_left (show s ≤ l.length by omega), Nat.min_eq_left (show n ≤ l.length by omega)]
    unfold seg
    rw [List.map_drop, List.map_take, ← List.drop_take]
  show Rs.ok (PyData.list (cutD (l.map pd) (some (s : Int)) (some (n : Int)))) = _
  rw [e]
  rfl
def mksL (ps : List (List Int)) : D := .list (ps.map intsL)
def tbD (T : List (List (Int × List Int))) : D := .list (T.map dD)
@[simp] theorem kl_mks (ps : List (List Int)) : kLst (mksL ps) = .ok (ps.map intsL) := id rfl
theorem vals_pm (m : List (Int × List Int)) : ((pm m).map fun p => (PyData.int p.1, p.2)).map (·.2) = m.map fun p => intsL p.2 := by
  unfold pm
  rw [List.map_map, List.map_map]
  rfl
def pfL (l : List Per) (T : List (List (Int × List Int))) (n : Nat) (e : Int) (s : Nat) : List (List Int) := if s = 0 then [tl l n e s] else (T.getD s []).map fun p => p.2 ++ tl l n e s
theorem tl_len (l : List Per) {n s : Nat} (e : Int) (h : s < n) : (tl l n e s).length = n - s := by
  unfold tl
  rw [List.length_cons, List.length_replicate]
  omega
theorem plans_from_ok (l : List Per) (T : List (List (Int × List Int))) (n : Nat) (e : Int) (s : Nat) (hs : s < n) (hn : n ≤ l.length) (hl : l.length ≤ 400) (hT : s < T.length) (hm : (T.getD s []).length ≤ 500) (hp : ∀ p ∈ T.getD s [], p.2.length = s) :
    f_plans_from [rowsD l, tbD T, .int (n : Int), .int e, .int (s : Int)] = .ok (mksL (pfL l T n e s)) := by
  rw [u_plans_from]
  unfold g_plans_from
  have c1 : c_plans_from_1 [.va (rowsD l), .va (tbD T), .va (.int (n : Int)), .va (.int e), .va (.int (s : Int)), .un, .un, .un, .un] = .ok (.list ((seg l s n).map fun x => PyData.int x.1)) := by
    unfold c_plans_from_1
    have sl := ks_td l (a := (s : Int)) (b := (n : Int)) (by omega) (by omega) (by omega)
    rw [Int.toNat_natCast, Int.toNat_natCast] at sl
    exact comp_list pd (fun x => PyData.int x.1) (seg l s n) (by unfold seg; rw [List.length_drop, List.length_take]; omega) (by simp [sl]) rfl fun x _ => ⟨_, rfl, rfl⟩
  have sm := sum_dem (seg l s n)
  have rp := repI (n - s - 1) 0 (k := (n : Int) - s - 1) (by omega) (by omega)
  have ad := addI (a := [e + dsum (seg l s n)]) (b := List.replicate (n - s - 1) 0) (by simp; omega)
  have et : [e + dsum (seg l s n)] ++ List.replicate (n - s - 1) 0 = tl l n e s := rfl
  rw [et] at ad
  have tln := tl_len l e hs
  unfold pfL
  by_cases h0 : s = 0
  · subst h0
    rw [if_pos rfl]
    generalize dsum (seg l 0 n) = ds at *
    generalize tl l n e 0 = t at *
    simp at rp c1 ad
    simp [c1, sm, ints_of1, rp, ad]
    rfl
  · rw [if_neg h0]
    have gt : sIx (tbD T) (.int (s : Int)) = .ok (dD (T.getD s [])) := ix_map (by rw [List.getD_eq_getElem?_getD, List.getElem?_eq_getElem hT]; rfl)
    have h0' : ¬ (s : Int) = 0 := by omega
    generalize dsum (seg l s n) = ds at *
    generalize tl l n e s = t at *
    have c2 : c_plans_from_2 [.va (rowsD l), .va (tbD T), .va (.int (n : Int)), .va (.int e), .va (.int (s : Int)), .un, .va (.int (e + ds)), .va (intsL t), .un] = .ok (mksL ((T.getD s []).map fun p => p.2 ++ t)) := by
      unfold c_plans_from_2
      have := comp_list (vs := [8]) (f := iVals' (fBin sIx (fV 1) (fV 4))) (tg := tgN 8) (e := fBin sAdd (fV 8) (fV 7)) (ρ := [.va (rowsD l), .va (tbD T), .va (.int (n : Int)), .va (.int e), .va (.int (s : Int)), .un, .va (.int (e + ds)), .va (intsL t), .un]) (fun p : Int × List Int => intsL p.2) (fun p => intsL (p.2 ++ t)) (T.getD s []) (by omega) (by
          simp [gt]
          unfold dD
          rw [q_kD, Rs.bind_ok, q_kWalk, ← vals_pm]) rfl fun p hpp => by
        have ad := addI (a := p.2) (b := t) (by have := hp p hpp; omega)
        exact ⟨_, rfl, by simp [ad]⟩
      rw [this]
      unfold mksL
      rw [List.map_map]
      rfl
    simp [c1, sm, ints_of1, rp, ad, h0, c2]
def odS (m : List (Int × List Int)) : Sl := .od ((pm m).map fun p => (PyData.int p.1, p.2))
theorem plan_turn (m : List (Int × List Int)) (x : Int) (r : List Int) (hz : m.length ≤ 990) (a b c d e f s8 : Sl) : b_plans_by_first_1 [a, b, c, d, e, f, .va (intsL (x :: r)), odS m, s8] = .nx [a, b, c, d, e, f, .va (intsL (x :: r)), odS (insL m x (x :: r)), s8] := by
  have i0 : sIx (intsL (x :: r)) (.int 0) = .ok (.int x) := ix_map (p := PyData.int) (l := x :: r) (k := 0) rfl
  have lt : ∀ p0 : List Int, sLtL (intsL (x :: r)) (intsL p0) = .ok (.bool (lx (x :: r) p0)) := fun p0 => q_sLtL (x :: r) p0
  have ll : (pm m).length < sizeLine := lt_size (by unfold pm; simp; omega)
  have pt : fDPut 7 (fV 6) (fBin sIx (fV 6) (fC (.int 0))) [a, b, c, d, e, f, .va (intsL (x :: r)), odS m, s8] = .nx [a, b, c, d, e, f, .va (intsL (x :: r)), odS (putL m x (x :: r)), s8] := by
    rw [q_fDPut]
    unfold odS
    have hz' : ((pm m).map fun p => (PyData.int p.1, p.2)).length < sizeLine := by rw [List.length_map]; exact ll
    have e1 := putD_map x (intsL (x :: r)) (pm m)
    rw [put_pm] at e1
    simp only [List.length_map] at hz'
    generalize hR : intsL (x :: r) = R at *
    simp [i0, hz', e1]
  have di : sDNotIn (.int x) (dD m) = .ok (.bool (!(lookL m x).isSome)) := by
    unfold dD
    rw [q_dnin, look_pm, Option.isSome_map]
  have dg : ∀ p0, lookL m x = some p0 → sDGet (dD m) (.int x) = .ok (intsL p0) := fun p0 h => by
    unfold dD
    rw [q_dget, look_pm, h]
    rfl
  unfold b_plans_by_first_1
  obtain ⟨es, hes⟩ : ∃ es, es = (pm m).map fun p => (PyData.int p.1, p.2) := ⟨_, rfl⟩
  have hO : odS m = .od es := by rw [hes]; rfl
  have hod : PyData.dict es = dD m := by rw [hes]; rfl
  rw [hO] at pt ⊢
  unfold insL
  cases hk : lookL m x with
  | none =>
    rw [hk] at di
    generalize hR : intsL (x :: r) = R at *
    simp [i0, hod, di, pt]
  | some p0 =>
    have dg := dg p0 hk
    have lt := lt p0
    rw [hk] at di
    cases hlt : lx (x :: r) p0 with
    | true =>
      rw [hlt] at lt
      generalize hR : intsL (x :: r) = R at *
      simp [i0, hod, di, pt, dg, lt, hlt]
    | false =>
      rw [hlt] at lt
      generalize hR : intsL (x :: r) = R at *
      simp [i0, hod, di, dg, lt, hlt, hO]
theorem plans_loop (a b c d e f s8 : Sl) : ∀ (ps : List (List Int)) (m : List (Int × List Int)) (s6 : Sl), (∀ p ∈ ps, p ≠ []) → m.length + ps.length ≤ 990 → ∃ t6, loopS (tgN 6) b_plans_by_first_1 (ps.map intsL) [a, b, c, d, e, f, s6, odS m, s8] = .nx [a, b, c, d, e, f, t6, odS (insAll m ps), s8]
  | [], m, s6, _, _ => ⟨s6, by simp [loopS, insAll]⟩
  | p :: ps, m, s6, hp, hl => by
    rw [List.length_cons] at hl
    cases p with
    | nil => exact absurd rfl (hp [] List.mem_cons_self)
    | cons x r =>
      have il := insL_len m x (x :: r)
      obtain ⟨t6, e1⟩ := plans_loop a b c d e f s8 ps (insL m x (x :: r)) (.va (intsL (x :: r))) (fun q hq => hp q (List.mem_cons_of_mem _ hq)) (by omega)
      have tn := plan_turn m x r (by omega) a b c d e f s8
      refine ⟨t6, ?_⟩
      have e2 : insAll m ((x :: r) :: ps) = insAll (insL m x (x :: r)) ps := rfl
      rw [e2, ← e1, List.map_cons]
      generalize hR : intsL (x :: r) = R at *
      generalize odS m = O at *
      simp [loopS, tn]
end Lw

namespace Lw
open PySem Ct L2
theorem nodup_le {α : Type} [DecidableEq α] : ∀ (a b : List α), a.Nodup → (∀ x ∈ a, x ∈ b) → a.length ≤ b.length
  | [], b, _, _ => Nat.zero_le _
  | x :: a, b, h, hs => by
    rw [List.nodup_cons] at h
    have hx := hs x List.mem_cons_self
    have ih := nodup_le a (b.erase x) h.2 fun y hy => by
      have : y ≠ x := fun z => h.1 (z ▸ hy)
      exact (List.mem_erase_of_ne this).mpr (hs y (List.mem_cons_of_mem _ hy))
    have := List.length_erase_of_mem hx
    have := List.length_pos_of_mem hx
    rw [List.length_cons]
    omega
theorem head_app {p t : List Int} (h : p ≠ []) : (p ++ t).head? = p.head? := by
  cases p with
  | nil => exact absurd rfl h
  | cons x p => rfl
theorem first_form : ∀ (n : Nat) (l : List Per) (e : Int) (p : List Int) (q : Int), l.length = n → Gds l → 0 ≤ e → Op l e p → p.head? = some q → q = dsum l + e ∨ ∃ k, 1 ≤ k ∧ k ≤ n ∧ q = dsum (l.take k) := by
  intro n
  induction n using Nat.strongRecOn with
  | ind n ih =>
    intro l e p q hl hg he ho hq
    cases n with
    | zero =>
      have := ho.len
      have : p = [] := List.eq_nil_of_length_eq_zero (by omega)
      subst this
      cases hq
    | succ n =>
      by_cases hz : e = 0 ∧ dem l n = 0
      · obtain ⟨rfl, hd⟩ := hz
        obtain ⟨p', rfl, h'⟩ := (Op_z hg hl hd p).mp ho
        by_cases hp : p' = []
        · subst hp
          have := ho.sm
          left
          have : q = 0 := by simpa using hq.symm
          simp at *
          omega
        · rw [head_app hp] at hq
          right
          rcases ih n (by omega) (l.take n) 0 p' q (by rw [List.length_take]; omega) (hg.take n) (Int.le_refl _) h' hq with h | ⟨k, k1, k2, h⟩
          · have := h'.len
            rw [List.length_take] at this
            have : 0 < p'.length := List.length_pos_iff.mpr hp
            exact ⟨n, by omega, by omega, by omega⟩
          · refine ⟨k, k1, by omega, ?_⟩
            rw [h, List.take_take, Nat.min_eq_left k2]
      · obtain ⟨s, p', s1, s2, h', rfl⟩ := (Op_s hg hl he hz p).mp ho
        by_cases hp : p' = []
        · subst hp
          have := h'.len
          rw [List.length_take] at this
          have s0 : s = 0 := by
            simp at this
            omega
          subst s0
          left
          have : q = e + dsum (seg l 0 (n + 1)) := by simpa [tl] using hq.symm
          have e1 : seg l 0 (n + 1) = l := by rw [← hl, seg_all, List.drop_zero]
          rw [e1] at this
          omega
        · rw [head_app hp] at hq
          right
          have hp0 : 0 < p'.length := List.length_pos_iff.mpr hp
          have := h'.len
          rw [List.length_take] at this
          rcases ih s (by omega) (l.take s) 0 p' q (by rw [List.length_take]; omega) (hg.take s) (Int.le_refl _) h' hq with h | ⟨k, k1, k2, h⟩
          · exact ⟨s, by omega, by omega, by omega⟩
          · refine ⟨k, k1, by omega, ?_⟩
            rw [h, List.take_take, Nat.min_eq_left k2]
theorem Lst.few {l : List Per} {e : Int} {P : List Int → Prop} {m : List (Int × List Int)} (h : Lst P m) (hP : ∀ r, P r → Op l e r) (hg : Gds l) (he : 0 ≤ e) : m.length ≤ l.length + 1 := by
  have := nodup_le (m.map (·.1)) ((dsum l + e) :: (List.range l.length).map fun k => dsum (l.take (k + 1))) h.nd fun x hx => by
    obtain ⟨z, z1, z2⟩ := List.mem_map.mp hx
    obtain ⟨a, b, _⟩ := h.lo z.1 z.2 z1
    rcases first_form l.length l e z.2 z.1 rfl hg he (hP _ a) b with h | ⟨k, k1, k2, h⟩
    · exact List.mem_cons.mpr (.inl (z2.symm.trans h))
    · exact List.mem_cons.mpr (.inr (List.mem_map.mpr ⟨k - 1, List.mem_range.mpr (by omega), by rw [show k - 1 + 1 = k by omega, ← h, z2]⟩))
  simpa using this
theorem Lst.wide {A B : List Int → Prop} {m : List (Int × List Int)} (h : Lst A m) (ab : ∀ p, A p → B p) (ba : ∀ p q, B p → p.head? = some q → ∃ p', A p' ∧ p'.head? = some q ∧ lx p p' = false) : Lst B m where
  nd := h.nd
  lo := fun q p hm => by
    obtain ⟨a, b, c⟩ := h.lo q p hm
    refine ⟨ab p a, b, fun p' hp hq => ?_⟩
    obtain ⟨p2, h1, h2, h3⟩ := ba p' q hp hq
    exact lx_le (c p2 h1 h2) h3
  al := fun p q hp hq => by
    obtain ⟨p2, h1, h2, h3⟩ := ba p q hp hq
    exact h.al p2 q h1 h2
def PP (l : List Per) (n : Nat) (e : Int) (s : Nat) (r : List Int) : Prop := ∃ p', Op (l.take s) 0 p' ∧ r = p' ++ tl l n e s
structure Tb (l : List Per) (T : List (List (Int × List Int))) (n : Nat) : Prop where
  len : T.length = n
  at' : ∀ s, 1 ≤ s → s < n → Lst (Op (l.take s) 0) (T.getD s [])
theorem pf_least {l : List Per} {T : List (List (Int × List Int))} {n s : Nat} (e : Int) (hT : ∀ s, 1 ≤ s → s < n → Lst (Op (l.take s) 0) (T.getD s [])) (hs : s < n) (hn : n ≤ l.length) :
    (∀ r ∈ pfL l T n e s, PP l n e s r) ∧ (∀ r q, PP l n e s r → r.head? = some q → ∃ r' ∈ pfL l T n e s, r'.head? = some q ∧ lx r r' = false) ∧ ∀ r ∈ pfL l T n e s, r ≠ [] := by
  have tne : ∀ p : List Int, p ++ tl l n e s ≠ [] := fun p z => by
    have := congrArg List.length z
    rw [List.length_append, tl_len l e hs] at this
    simp at this
    omega
  unfold pfL
  by_cases h0 : s = 0
  · subst h0
    rw [if_pos rfl]
    have e0 : ∀ p, Op (l.take 0) 0 p ↔ p = [] := fun p => by
      constructor
      · intro h
        have := h.len
        exact List.eq_nil_of_length_eq_zero (by simpa using this)
      · rintro rfl
        exact ⟨by simp, by simp, by simp, by simp [LC, C_zero]⟩
    refine ⟨fun r hr => ?_, fun r q hr hq => ?_, fun r hr => ?_⟩
    · rw [List.mem_singleton.mp hr]
      exact ⟨[], (e0 []).mpr rfl, rfl⟩
    · obtain ⟨p', h1, rfl⟩ := hr
      rw [(e0 p').mp h1] at hq ⊢
      exact ⟨_, List.mem_singleton.mpr rfl, hq, lx_irr _⟩
    · rw [List.mem_singleton.mp hr]
      exact tne []
  · rw [if_neg h0]
    have ht := (hT s (by omega) hs).tail (n := s) (fun p hp => by have := hp.len; rw [List.length_take] at this; omega) (by omega) (tl l n e s)
    refine ⟨fun r hr => ?_, fun r q hr hq => ?_, fun r hr => ?_⟩
    · obtain ⟨z, z1, z2⟩ := List.mem_map.mp hr
      obtain ⟨a, _, _⟩ := (hT s (by omega) hs).lo z.1 z.2 z1
      exact ⟨z.2, a, z2.symm⟩
    · obtain ⟨p', hm⟩ := ht.al r q hr hq
      obtain ⟨a, b, c⟩ := ht.lo q p' hm
      obtain ⟨z, z1, z2⟩ := List.mem_map.mp hm
      injection z2 with z2 z3
      exact ⟨p', List.mem_map.mpr ⟨z, z1, z3⟩, b, c r hr hq⟩
    · obtain ⟨z, z1, z2⟩ := List.mem_map.mp hr
      rw [← z2]
      exact tne _
theorem pfL_len {l : List Per} {T : List (List (Int × List Int))} {n s : Nat} (e : Int) (h : (T.getD s []).length ≤ 500) : (pfL l T n e s).length ≤ 500 := by
  unfold pfL
  split
  · simp
  · rw [List.length_map]; exact h
theorem starts_loop (l : List Per) (T : List (List (Int × List Int))) (n : Nat) (e : Int) (b s5 : Sl) (hg : Gds l) (hn : n ≤ l.length) (hl : l.length ≤ 400) (he : 0 ≤ e) (hTl : n ≤ T.length) (hT : ∀ s, 1 ≤ s → s < n → Lst (Op (l.take s) 0) (T.getD s [])) (h0 : T.getD 0 [] = []) : ∀ (ss : List Nat) (P : List Int → Prop) (m : List (Int × List Int)) (s6 s8 : Sl), (∀ s ∈ ss, s < n) → Lst P m → (∀ r, P r → Op (l.take n) e r) → (∀ s ∈ ss, ∀ r, PP l n e s r → Op (l.take n) e r) →
    ∃ m' t6 t8, Lst (fun r => P r ∨ ∃ s ∈ ss, PP l n e s r) m' ∧ loopS (tgN 8) b_plans_by_first_2 (ss.map fun k : Nat => PyData.int (k : Int)) [.va (rowsD l), b, .va (tbD T), .va (.int (n : Int)), .va (.int e), s5, s6, odS m, s8] = .nx [.va (rowsD l), b, .va (tbD T), .va (.int (n : Int)), .va (.int e), s5, t6, odS m', t8]
  | [], P, m, s6, s8, _, h, _, _ => ⟨m, s6, s8, h.congr fun r => by simp, by simp [loopS]⟩
  | s :: ss, P, m, s6, s8, hs, h, hP, hS => by
    have hs1 := hs s List.mem_cons_self
    obtain ⟨f1, f2, f3⟩ := pf_least (l := l) (T := T) e hT hs1 hn
    have ml := h.few hP (hg.take n) he
    rw [List.length_take] at ml
    have tl1 : (T.getD s []).length ≤ 500 := by
      by_cases z : s = 0
      · subst z; rw [h0]; simp
      · have := (hT s (by omega) hs1).few (fun _ h => h) (hg.take s) (Int.le_refl _)
        rw [List.length_take] at this
        omega
    have pl := pfL_len (l := l) (n := n) (s := s) e tl1
    have pf := plans_from_ok l T n e s hs1 hn hl (by omega) tl1 (fun p hp => by
      by_cases z : s = 0
      · subst z; rw [h0] at hp; cases hp
      · obtain ⟨a, _, _⟩ := (hT s (by omega) hs1).lo p.1 p.2 hp
        have := a.len
        rw [List.length_take] at this
        omega)
    generalize hps : pfL l T n e s = ps at *
    have hm := h.many ps f3
    have hm2 : Lst (fun r => P r ∨ PP l n e s r) (insAll m ps) := hm.wide (fun r hr => hr.imp id (f1 r)) fun r q hr hq => by
      rcases hr with hr | hr
      · exact ⟨r, .inl hr, hq, lx_irr r⟩
      · obtain ⟨r', a, b, c⟩ := f2 r q hr hq
        exact ⟨r', .inr a, b, c⟩
    obtain ⟨t6, e1⟩ := plans_loop (.va (rowsD l)) b (.va (tbD T)) (.va (.int (n : Int))) (.va (.int e)) s5 (.va (.int (s : Int))) ps m s6 f3 (by omega)
    have hQ : ∀ r, P r ∨ PP l n e s r → Op (l.take n) e r := fun r hr => hr.elim (hP r) (hS s List.mem_cons_self r)
    obtain ⟨m', u6, u8, k1, k2⟩ := starts_loop l T n e b s5 hg hn hl he hTl hT h0 ss _ _ t6 (.va (.int (s : Int))) (fun x hx => hs x (List.mem_cons_of_mem _ hx)) hm2 hQ (fun x hx => hS x (List.mem_cons_of_mem _ hx))
    refine ⟨m', u6, u8, k1.congr fun r => ?_, ?_⟩
    · constructor
      · rintro ((a | a) | ⟨x, x1, x2⟩)
        · exact .inl a
        · exact .inr ⟨s, List.mem_cons_self, a⟩
        · exact .inr ⟨x, List.mem_cons_of_mem _ x1, x2⟩
      · rintro (a | ⟨x, x1, x2⟩)
        · exact .inl (.inl a)
        · rcases List.mem_cons.mp x1 with rfl | x1
          · exact .inl (.inr x2)
          · exact .inr ⟨x, x1, x2⟩
    · rw [← k2, List.map_cons]
      have bd : b_plans_by_first_2 [.va (rowsD l), b, .va (tbD T), .va (.int (n : Int)), .va (.int e), s5, s6, odS m, .va (.int (s : Int))] = .nx [.va (rowsD l), b, .va (tbD T), .va (.int (n : Int)), .va (.int e), s5, t6, odS (insAll m ps), .va (.int (s : Int))] := by
        unfold b_plans_by_first_2
        generalize odS m = O at *
        generalize odS (insAll m ps) = O' at *
        simp [pf, e1]
      generalize odS m = O at *
      generalize odS (insAll m ps) = O' at *
      simp [loopS, bd]
end Lw

namespace Lw
open PySem Ct L2
theorem take_seg (l : List Per) {s n : Nat} : seg (l.take n) s n = seg l s n := by
  unfold seg
  rw [List.take_take, Nat.min_self]
theorem tl_take (l : List Per) (n : Nat) (e : Int) (s : Nat) : tl (l.take n) n e s = tl l n e s := by
  unfold tl
  rw [take_seg]
theorem foldl_put : ∀ (r m : List (Int × D)), ((m ++ r).map (·.1)).Nodup → r.foldl (fun a p => putI a p.1 p.2) m = m ++ r
  | [], m, _ => by simp
  | p :: r, m, h => by
    have hp : putI m p.1 p.2 = m ++ [p] := by
      unfold putI
      rw [if_neg]
      intro z
      obtain ⟨x, x1, x2⟩ := List.any_eq_true.mp z
      have x2 := of_decide_eq_true x2
      rw [List.map_append, List.nodup_append] at h
      exact h.2.2 x.1 (List.mem_map.mpr ⟨x, x1, rfl⟩) p.1 (List.mem_map.mpr ⟨p, List.mem_cons_self, rfl⟩) x2
    rw [List.foldl_cons, hp, foldl_put r (m ++ [p]) (by rw [List.append_assoc]; exact h), List.append_assoc]
    rfl
theorem LC_tk (l : List Per) {n : Nat} (hp : 0 < n) (hn : n ≤ l.length) {e : Int} (h : ¬ (e = 0 ∧ dem l (n - 1) = 0)) : LC (l.take n) e = lmin ((List.range n).map fun j => V l n j e) := by
  rw [LC_take l hn]
  by_cases h0 : e = 0
  · subst h0
    rw [if_pos rfl]
    have hd : dem l (n - 1) ≠ 0 := fun z => h ⟨rfl, z⟩
    have := C_p (l := l) (n := n - 1) hd
    rw [show n - 1 + 1 = n by omega] at this
    exact this
  · rw [if_neg h0]
theorem pbf_ok (l : List Per) (T : List (List (Int × List Int))) (M n : Nat) (e : Int) (hg : Gds l) (hp : 0 < n) (hn : n ≤ l.length) (hl : l.length ≤ 400) (hM : n ≤ M + 1) (he : 0 ≤ e) (he2 : e ≤ 1000000 * BC) (hTl : n ≤ T.length) (hT : ∀ s, 1 ≤ s → s < n → Lst (Op (l.take s) 0) (T.getD s [])) (h0 : T.getD 0 [] = []) :
    ∃ m, Lst (Op (l.take n) e) m ∧ f_plans_by_first [rowsD l, intsL (costs l M), tbD T, .int (n : Int), .int e] = .ok (dD m) := by
  obtain ⟨k, rfl⟩ : ∃ k, n = k + 1 := ⟨n - 1, by omega⟩
  have ltk : (l.take (k + 1)).length = k + 1 := by rw [List.length_take]; omega
  have dk : dem (l.take (k + 1)) k = dem l k := by
    unfold dem
    rw [List.getD_eq_getElem?_getD, List.getD_eq_getElem?_getD, List.getElem?_take_of_lt (by omega)]
  have x1 := at_getD (l := l) (k := k) (by omega)
  have rx := row_at x1
  have rx' : sIx (rowsD l) (.int ((k : Int) + 1 - 1)) = .ok (pd (l.getD k P0)) := by rw [show (k : Int) + 1 - 1 = k by omega]; exact rx
  have dd : (l.getD k P0).1 = dem l k := rfl
  rw [u_plans_by_first]
  unfold g_plans_by_first
  by_cases hz : e = 0 ∧ dem l k = 0
  · obtain ⟨rfl, hd⟩ := hz
    by_cases hk : k = 0
    · subst hk
      refine ⟨[(0, [0])], ?_, ?_⟩
      · have e1 : ∀ p, Op (l.take (0 + 1)) 0 p ↔ p = [0] := fun p => by
          rw [Op_z (hg.take _) ltk (by rw [dk]; exact hd) p]
          constructor
          · rintro ⟨p', rfl, h⟩
            have := h.len
            have : p' = [] := List.eq_nil_of_length_eq_zero (by simpa using this)
            rw [this]
            rfl
          · rintro rfl
            exact ⟨[], rfl, by simp, by simp, by simp, by simp [LC, C_zero]⟩
        refine Lst.congr ?_ fun p => (e1 p).symm
        refine ⟨by simp, fun q p hm => ?_, fun p q hp hq => ?_⟩
        · have := List.mem_singleton.mp hm
          injection this with a b
          subst a; subst b
          exact ⟨rfl, rfl, fun p' hp _ => by rw [hp]; exact lx_irr _⟩
        · subst hp
          have : q = 0 := by simpa using hq.symm
          subst this
          exact ⟨[0], List.mem_singleton.mpr rfl⟩
      · rw [← dd] at hd
        generalize l.getD 0 P0 = x at *
        simp at rx'
        simp [rx', hd]
        rfl
    · have hTk := hT k (by omega) (by omega)
      have hk0 : ¬ (k : Int) = 0 := by omega
      have tk : l.take k = (l.take (k + 1)).take k := by rw [List.take_take, Nat.min_eq_left (by omega)]
      refine ⟨(T.getD k []).map fun p => (p.1, p.2 ++ [0]), ?_, ?_⟩
      · refine (hTk.tail (n := k) (fun p hp => by have := hp.len; rw [List.length_take] at this; omega) (by omega) [0]).congr fun p => ?_
        rw [Op_z (hg.take _) ltk (by rw [dk]; exact hd) p, ← tk]
        exact ⟨fun ⟨a, b, c⟩ => ⟨a, c, b⟩, fun ⟨a, b, c⟩ => ⟨a, c, b⟩⟩
      · have gt : sIx (tbD T) (.int (k : Int)) = .ok (dD (T.getD k [])) := ix_map (by rw [List.getD_eq_getElem?_getD, List.getElem?_eq_getElem (by omega)]; rfl)
        have gt' : sIx (tbD T) (.int ((k : Int) + 1 - 1)) = .ok (dD (T.getD k [])) := by rw [show (k : Int) + 1 - 1 = k by omega]; exact gt
        have tkl := hTk.few (fun _ h => h) (hg.take k) (Int.le_refl _)
        rw [List.length_take] at tkl
        have pl : ∀ p ∈ T.getD k [], p.2.length = k := fun p hp => by
          obtain ⟨a, _, _⟩ := hTk.lo p.1 p.2 hp
          have := a.len
          rw [List.length_take] at this
          omega
        have nd := hTk.nd
        generalize hm : T.getD k [] = m at *
        have cc : ∀ s5 s6 s7 s8, c_plans_by_first_1 [.va (rowsD l), .va (intsL (costs l M)), .va (tbD T), .va (.int ((k : Int) + 1)), .va (.int 0), s5, s6, s7, s8] = .ok (dD (m.map fun p => (p.1, p.2 ++ [0]))) := fun s5 s6 s7 s8 => by
          unfold c_plans_by_first_1
          rw [dcomp_ok (ds := m.map fun p => PyData.tuple [.int p.1, intsL p.2]) (r := m.map fun p => (p.1, intsL (p.2 ++ [0]))) (by
            simp [gt]
            unfold dD
            rw [q_kD, Rs.bind_ok, q_kWalk]
            unfold pm
            rw [List.map_map, List.map_map]
            rfl) (by rw [List.length_map]; omega) (dcomp_map (p := fun p : Int × List Int => PyData.tuple [.int p.1, intsL p.2]) (fun p => (p.1, intsL (p.2 ++ [0]))) m fun p hp => by
              have ad := addI (a := p.2) (b := [0]) (by have := pl p hp; simp; omega)
              exact ⟨_, rfl, by simp [wipeR], by simp [wipeR, ints_of1, ad]⟩)]
          rw [foldl_put _ [] (by rw [List.nil_append, List.map_map]; exact nd), List.nil_append]
          unfold dD pm
          rw [List.map_map]
          rfl
        rw [← dd] at hd
        generalize l.getD k P0 = x at *
        have k10 : ¬ (k : Int) + 1 = 1 := by omega
        simp [rx, hd, hk0, k10, cc, hk]
  · have hz' : ¬ (e = 0 ∧ dem (l.take (k + 1)) k = 0) := by rw [dk]; exact hz
    have st := starts_ok l M (k + 1) e hg (by omega) hn hM (by omega) he he2
    have lc := LC_tk l (n := k + 1) (by omega) hn (e := e) hz
    rw [← lc] at st
    have key : ∀ r, (∃ s ∈ starts l (k + 1) e (LC (l.take (k + 1)) e), PP l (k + 1) e s r) ↔ Op (l.take (k + 1)) e r := fun r => by
      rw [Op_s (hg.take _) ltk he hz' r]
      constructor
      · rintro ⟨s, s1, p', p1, p2⟩
        have s2 := starts_lt s1
        have s3 := of_decide_eq_true (List.mem_filter.mp s1).2
        refine ⟨s, p', by omega, by rw [V_take hn s2]; exact s3, ?_, by rw [tl_take]; exact p2⟩
        rw [List.take_take, Nat.min_eq_left (by omega)]
        exact p1
      · rintro ⟨s, p', s1, s2, p1, p2⟩
        rw [V_take hn (by omega)] at s2
        rw [List.take_take, Nat.min_eq_left (by omega)] at p1
        refine ⟨s, List.mem_filter.mpr ⟨List.mem_range.mpr (by omega), decide_eq_true s2⟩, p', p1, ?_⟩
        rw [p2, tl_take]
    obtain ⟨m', t6, t8, k1, k2⟩ := starts_loop l T (k + 1) e (.va (intsL (costs l M))) .un hg hn hl he hTl hT h0 (starts l (k + 1) e (LC (l.take (k + 1)) e)) (fun _ => False) [] .un .un (fun s hs => starts_lt hs) Lst.nil (fun r h => h.elim) (fun s hs r hr => (key r).mp ⟨s, hs, hr⟩)
    refine ⟨m', k1.congr fun r => by rw [← key r]; simp, ?_⟩
    have hne : (e = 0 → ¬ (l.getD k P0).1 = 0) := fun a b => hz ⟨a, b⟩
    have hod : PyData.dict ((pm m').map fun p => (PyData.int p.1, p.2)) = dD m' := rfl
    unfold odS at k2
    generalize (pm m').map (fun p => (PyData.int p.1, p.2)) = es at *
    have hn0 : (pm []).map (fun p => (PyData.int p.1, p.2)) = [] := rfl
    rw [hn0] at k2
    generalize starts l (k + 1) e (LC (l.take (k + 1)) e) = ss at *
    generalize l.getD k P0 = x at *
    have cast : ((k + 1 : Nat) : Int) = (k : Int) + 1 := by omega
    rw [cast] at st k2
    by_cases h00 : e = 0
    · have hx := hne h00
      subst h00
      simp [rx, hx, st, k2, hod]
    · simp [h00, st, k2, hod]
end Lw

namespace Lw
open PySem Ct L2
structure Tab (l : List Per) (T : List (List (Int × List Int))) (n : Nat) : Prop where
  len : T.length = n + 1
  zero : T.getD 0 [] = []
  at' : ∀ s, 1 ≤ s → s ≤ n → Lst (Op (l.take s) 0) (T.getD s [])
theorem getD_snoc {α : Type} (T : List α) (x d : α) (s : Nat) : (T ++ [x]).getD s d = if s = T.length then x else T.getD s d := by
  rw [List.getD_eq_getElem?_getD, List.getD_eq_getElem?_getD]
  by_cases h : s < T.length
  · rw [List.getElem?_append_left h, if_neg (by omega)]
  · rw [List.getElem?_append_right (by omega)]
    by_cases h2 : s = T.length
    · rw [if_pos h2, h2, Nat.sub_self]; rfl
    · rw [if_neg h2, List.getElem?_eq_none (by simp; omega), List.getElem?_eq_none (by omega)]
theorem table_loop (l : List Per) (hg : Gds l) (hl : l.length ≤ 400) : ∀ (m k : Nat) (T : List (List (Int × List Int))) (s3 : Sl), k + m = l.length → Tab l T k → ∃ T' t3, Tab l T' l.length ∧ loopS (tgN 3) b_plan_table_1 ((List.range' (k + 1) m).map fun k : Nat => PyData.int (k : Int)) [.va (rowsD l), .va (intsL (costs l l.length)), .ow (T.map dD), s3] = .nx [.va (rowsD l), .va (intsL (costs l l.length)), .ow (T'.map dD), t3]
  | 0, k, T, s3, hk, h => by
    have : k = l.length := by omega
    subst this
    exact ⟨T, s3, h, by simp [loopS]⟩
  | m + 1, k, T, s3, hk, h => by
    have b1 := BC_big
    have b2 := BB_pos
    obtain ⟨d, hd, e⟩ := pbf_ok l T l.length (k + 1) 0 hg (by omega) (by omega) hl (by omega) (Int.le_refl _) (by omega) (by have := h.len; omega) (fun s h1 h2 => h.at' s h1 (by omega)) h.zero
    have hlen := h.len
    have hT' : Tab l (T ++ [d]) (k + 1) := by
      refine ⟨by rw [List.length_append, List.length_singleton, hlen], ?_, fun s h1 h2 => ?_⟩
      · rw [getD_snoc, if_neg (by omega)]; exact h.zero
      · rw [getD_snoc]
        by_cases z : s = T.length
        · rw [if_pos z, z, hlen]; exact hd
        · rw [if_neg z]; exact h.at' s h1 (by omega)
    obtain ⟨T', t3, k1, k2⟩ := table_loop l hg hl m (k + 1) (T ++ [d]) (.va (.int ((k + 1 : Nat) : Int))) (by omega) hT'
    refine ⟨T', t3, k1, ?_⟩
    rw [← k2, List.range'_succ]
    have hz : (T.map dD).length < sizeLine := lt_size (by rw [List.length_map]; omega)
    have ns : ((T.map dD).any fun d => !scal1 d) = true := by
      cases T with
      | nil => simp at hlen
      | cons t T => rfl
    have nl : kNoL (T.map dD) (dD d) = .ok (dD d) := noL_dict ns fun p hp => by
      obtain ⟨z, z1, z2⟩ := List.mem_map.mp hp
      exact ⟨z.2, by rw [← z2]; rfl⟩
    have bd : b_plan_table_1 [.va (rowsD l), .va (intsL (costs l l.length)), .ow (T.map dD), .va (.int ((k + 1 : Nat) : Int))] = .nx [.va (rowsD l), .va (intsL (costs l l.length)), .ow ((T ++ [d]).map dD), .va (.int ((k + 1 : Nat) : Int))] := by
      rw [List.map_append, List.map_singleton]
      unfold b_plan_table_1
      have e' : f_plans_by_first [rowsD l, intsL (costs l l.length), .list (T.map dD), .int ((k + 1 : Nat) : Int), .int 0] = .ok (dD d) := e
      generalize T.map dD = A at *
      generalize dD d = B at *
      generalize ((k + 1 : Nat) : Int) = K at *
      simp [e', nl, mAppend, hz]
    rw [List.map_cons]
    generalize (T ++ [d]).map dD = A' at *
    generalize T.map dD = A at *
    generalize ((k + 1 : Nat) : Int) = K at *
    simp [loopS, bd]
theorem table_ok (l : List Per) (hg : Gds l) (hl : l.length ≤ 400) : ∃ T, Tab l T l.length ∧ f_plan_table [rowsD l] = .ok (tbD T) := by
  obtain ⟨T', t3, k1, k2⟩ := table_loop l hg hl l.length 0 [[]] .un (by omega) ⟨rfl, rfl, fun s h1 h2 => by omega⟩
  refine ⟨T', k1, ?_⟩
  rw [u_plan_table]
  unfold g_plan_table
  have lc := least_ok l hg (by omega)
  have rr := rg2_map 1 (l.length + 1) (by omega) (by omega)
  have e0 : [([] : List (Int × List Int))].map dD = [.dict []] := rfl
  rw [e0] at k2
  have e1 : PyData.list (T'.map dD) = tbD T' := rfl
  have c : ((l.length + 1 : Nat) : Int) = (l.length : Int) + 1 := by omega
  rw [c] at rr
  simp at rr k2
  generalize T'.map dD = A at *
  simp [lc, rr, k2, e1]
structure Bp (l : List Per) (e : Int) (p : List Int) : Prop where
  op : Op l e p
  lo : ∀ p', Op l e p' → lx p' p = false
theorem Bp.uniq {l : List Per} {e : Int} {p q : List Int} (h : Bp l e p) (g : Bp l e q) : p = q := lx_tot (g.lo p h.op) (h.lo q g.op)
theorem sort_lt {ks : List Int} (h : ks.Nodup) : (sortI ks).Pairwise (· < ·) := by
  have hs := sortI_sorted ks
  have hn : (sortI ks).Nodup := (sortI_perm ks).nodup_iff.mpr h
  exact (List.pairwise_and_iff.mpr ⟨hs, hn⟩).imp fun h => by omega
def Fst (l : List Per) (e q : Int) : Prop := ∃ p, Op l e p ∧ p.head? = some q
theorem Lst.key {l : List Per} {e : Int} {m : List (Int × List Int)} (h : Lst (Op l e) m) (q : Int) : q ∈ m.map (·.1) ↔ Fst l e q := by
  constructor
  · intro hq
    obtain ⟨z, z1, z2⟩ := List.mem_map.mp hq
    obtain ⟨a, b, _⟩ := h.lo z.1 z.2 z1
    exact ⟨z.2, a, by rw [b, z2]⟩
  · rintro ⟨p, a, b⟩
    obtain ⟨p', hp'⟩ := h.al p q a b
    exact List.mem_map.mpr ⟨_, hp', rfl⟩
end Lw

namespace Lw
open PySem Ct L2
end Lw

namespace Lw
open PySem Ct L2
@[simp] theorem capD_n : capD none = .none := id rfl
@[simp] theorem capD_s (c : Int) : capD (some c) = .int c := id rfl
def Fo (l : List Per) (e : Int) (cap : Option Int) : Prop := match cap with
  | none => True
  | some c => e ≤ gF l c
instance (l : List Per) (e : Int) (cap : Option Int) : Decidable (Fo l e cap) := by
  unfold Fo
  cases cap <;> infer_instance
theorem greatest_cap (l : List Per) (cap : Option Int) (hg : Gds l) (hl : l.length ≤ 500) (hp : l ≠ []) : f_greatest_forced [rowsD l, capD cap] = .ok (capD (cap.map (gF l))) := by
  cases cap with
  | none => exact greatest_none l hg hp
  | some c => exact greatest_ok l c hg hl hp
end Lw

namespace Lw
open PySem Ct L2
theorem Fst.ne {l : List Per} {e q : Int} (h : Fst l e q) : l ≠ [] := by
  obtain ⟨p, hp, hq⟩ := h
  rintro rfl
  have := hp.len
  have : p = [] := List.eq_nil_of_length_eq_zero (by simpa using this)
  subst this
  cases hq
theorem Fst_pfx {l : List Per} (hg : Gds l) (hp : l ≠ []) (q : Int) : Fst l 0 q ↔ dem l 0 ≤ q ∧ q ≤ dsum l ∧ pfx l [q] 0 = LC l 0 := by
  have hpl := List.length_pos_iff.mpr hp
  obtain ⟨x, r, rfl⟩ : ∃ x r, l = x :: r := by
    cases l with
    | nil => exact absurd rfl hp
    | cons x r => exact ⟨x, r, rfl⟩
  have d0 : dem (x :: r) 0 = x.1 := rfl
  rw [d0]
  constructor
  · rintro ⟨p, h, hq⟩
    have hl := h.len
    cases p with
    | nil => cases hq
    | cons q' p =>
      have : q' = q := by simpa using hq
      subst this
      have hf := h.fe
      have hf1 : feas 0 (x :: r) [q'] := ⟨hf.1, hf.2.1, by cases r <;> trivial⟩
      have hs := h.sm
      rw [List.sum_cons] at hs
      have s0 := feas_sum _ _ _ hf.2.2
      have hsum : [q'].sum ≤ dsum (x :: r) := by simp; rw [dsum_cons] at hs; omega
      have low := pfx_lower hg hf1 hsum (p := p) (e := 0) (by simpa using hl) hf (by simp; rw [dsum_cons] at hs; omega)
      have ge := pfx_ge hg hf1 hsum (Int.le_refl 0) (fun h => by omega)
      have co := h.co
      have f2 := hf.2.1
      refine ⟨by omega, by simpa using hsum, ?_⟩
      have : pco 0 (x :: r) ([q'] ++ p) = LC (x :: r) 0 := co
      omega
  · rintro ⟨h1, h2, h3⟩
    have x0 := hg.head.d0
    have hf1 : feas 0 (x :: r) [q] := ⟨by omega, by omega, by cases r <;> trivial⟩
    obtain ⟨p, p1, p2, p3, p4, _⟩ := pfx_reach hg hf1 (by simpa using h2) (Int.le_refl 0) (fun h => by omega)
    exact ⟨[q] ++ p, ⟨p1, p2, by rw [List.sum_append]; exact p3, by rw [p4, h3]⟩, rfl⟩
end Lw

namespace Lw
open PySem Ct L2
end Lw

namespace Lw
open PySem Ct L2
end Lw

namespace Lw
open PySem Ct L2
abbrev Ln := Int × Int
def lnD (p : Ln) : D := .tuple [.int p.1, .int p.2]
def lnsD (ls : List Ln) : D := .list (ls.map lnD)
def lnl (l : List Per) : List Ln := (List.range l.length).map fun j => (base l j, rate l j)
theorem lnl_D (l : List Per) : linesD l = lnsD (lnl l) := by
  unfold linesD lnsD lnl
  rw [List.map_map]
  rfl
structure Dec (ls : List Ln) : Prop where
  pw : ls.Pairwise fun a b => b.2 < a.2
  nn : ∀ p ∈ ls, 0 ≤ p.2
  bd : ∀ p ∈ ls, p.2 ≤ 1000 * BB
theorem lnl_dec {l : List Per} (hg : Gds l) (hl : l.length ≤ 900) : Dec (lnl l) := by
  refine ⟨?_, fun p hp => ?_, fun p hp => ?_⟩
  · unfold lnl
    rw [List.pairwise_map]
    refine List.Pairwise.imp_of_mem ?_ (List.pairwise_lt_range (n := l.length))
    intro a b ha hb h
    exact rate_dec hg h (by have := List.mem_range.mp hb; omega)
  · obtain ⟨j, hj, rfl⟩ := List.mem_map.mp hp
    have := rate_pos hg (List.mem_range.mp hj)
    show 0 ≤ rate l j
    omega
  · obtain ⟨j, hj, rfl⟩ := List.mem_map.mp hp
    have h1 := rate_le hg j
    have h2 := mul_BB hl
    have := BB_pos
    show rate l j ≤ _
    omega
def lowA (x : Ln) (a : Int) : List Ln → Int
  | [] => a
  | y :: ys => lowA x (max a (-((y.1 - x.1) / (y.2 - x.2)))) ys
def stepH (x : Ln) (a : Option Int) (y : Ln) : Option Int := match a with
  | none => some ((y.1 - x.1) / (x.2 - y.2))
  | some h => if (y.1 - x.1) / (x.2 - y.2) < h then some ((y.1 - x.1) / (x.2 - y.2)) else some h
def highA (x : Ln) (a : Option Int) : List Ln → Option Int
  | [] => a
  | y :: ys => highA x (stepH x a y) ys
def rng1 (x : Ln) (pre suf : List Ln) : Option (Int × Option Int) := match highA x none suf with
  | none => some (lowA x 1 pre, none)
  | some h => if h < lowA x 1 pre then none else some (lowA x 1 pre, some h)
def rngsA (pre : List Ln) : List Ln → List (Option (Int × Option Int))
  | [] => []
  | x :: r => rng1 x pre r :: rngsA (pre ++ [x]) r
def rD : Option (Int × Option Int) → D
  | none => .none
  | some (lo, hi) => .tuple [.int lo, capD hi]
def at1 (x : Ln) (e : Int) : Int := x.1 + x.2 * e
theorem lowA_spec (x : Ln) (e : Int) : ∀ (ys : List Ln) (a : Int), (∀ y ∈ ys, x.2 < y.2) → (lowA x a ys ≤ e ↔ a ≤ e ∧ ∀ y ∈ ys, at1 x e ≤ at1 y e)
  | [], a, _ => by simp [lowA]
  | y :: ys, a, h => by
    have hy := h y List.mem_cons_self
    have key : -((y.1 - x.1) / (y.2 - x.2)) ≤ e ↔ at1 x e ≤ at1 y e := by
      have h1 : -((y.1 - x.1) / (y.2 - x.2)) ≤ e ↔ -e ≤ (y.1 - x.1) / (y.2 - x.2) := by constructor <;> (intro; omega)
      rw [h1, Int.le_ediv_iff_mul_le (by omega)]
      unfold at1
      have : -e * (y.2 - x.2) = x.2 * e - y.2 * e := by grind
      rw [this]
      constructor <;> (intro; omega)
    rw [lowA, lowA_spec x e ys _ fun z hz => h z (List.mem_cons_of_mem _ hz)]
    constructor
    · rintro ⟨a1, a2⟩
      refine ⟨by omega, fun z hz => ?_⟩
      rcases List.mem_cons.mp hz with rfl | hz
      · exact key.mp (by omega)
      · exact a2 z hz
    · rintro ⟨a1, a2⟩
      have := key.mpr (a2 y List.mem_cons_self)
      exact ⟨by omega, fun z hz => a2 z (List.mem_cons_of_mem _ hz)⟩
def below (a : Option Int) (e : Int) : Prop := ∀ h, a = some h → e ≤ h
theorem stepH_spec (x y : Ln) (a : Option Int) (e : Int) (h : y.2 < x.2) : below (stepH x a y) e ↔ below a e ∧ at1 x e ≤ at1 y e := by
  have key : e ≤ (y.1 - x.1) / (x.2 - y.2) ↔ at1 x e ≤ at1 y e := by
    rw [Int.le_ediv_iff_mul_le (by omega)]
    unfold at1
    have : e * (x.2 - y.2) = x.2 * e - y.2 * e := by grind
    rw [this]
    constructor <;> (intro; omega)
  rw [← key]
  unfold below stepH
  cases a with
  | none => simp
  | some k =>
    dsimp only
    split
    · constructor
      · intro g
        have := g _ rfl
        exact ⟨fun h e => by cases e; omega, this⟩
      · rintro ⟨g1, g2⟩ h e
        cases e
        exact g2
    · constructor
      · intro g
        have := g _ rfl
        exact ⟨fun h e => by cases e; omega, by omega⟩
      · rintro ⟨g1, g2⟩ h e
        cases e
        exact g1 _ rfl
theorem highA_spec (x : Ln) (e : Int) : ∀ (ys : List Ln) (a : Option Int), (∀ y ∈ ys, y.2 < x.2) → (below (highA x a ys) e ↔ below a e ∧ ∀ y ∈ ys, at1 x e ≤ at1 y e)
  | [], a, _ => by simp [highA]
  | y :: ys, a, h => by
    rw [highA, highA_spec x e ys _ fun z hz => h z (List.mem_cons_of_mem _ hz), stepH_spec x y a e (h y List.mem_cons_self)]
    constructor
    · rintro ⟨⟨a1, a2⟩, a3⟩
      refine ⟨a1, fun z hz => ?_⟩
      rcases List.mem_cons.mp hz with rfl | hz
      · exact a2
      · exact a3 z hz
    · rintro ⟨a1, a2⟩
      exact ⟨⟨a1, a2 y List.mem_cons_self⟩, fun z hz => a2 z (List.mem_cons_of_mem _ hz)⟩
def inR (r : Option (Int × Option Int)) (e : Int) : Prop := match r with
  | none => False
  | some (lo, hi) => lo ≤ e ∧ below hi e
theorem rng1_spec (x : Ln) (pre suf : List Ln) (e : Int) (h1 : ∀ y ∈ pre, x.2 < y.2) (h2 : ∀ y ∈ suf, y.2 < x.2) : inR (rng1 x pre suf) e ↔ 1 ≤ e ∧ (∀ y ∈ pre, at1 x e ≤ at1 y e) ∧ ∀ y ∈ suf, at1 x e ≤ at1 y e := by
  have a := lowA_spec x e pre 1 h1
  have b := highA_spec x e suf none h2
  have n : below none e := fun h z => by cases z
  unfold rng1
  cases hh : highA x none suf with
  | none =>
    rw [hh] at b
    show lowA x 1 pre ≤ e ∧ below none e ↔ _
    rw [a]
    constructor
    · rintro ⟨⟨p, q⟩, _⟩; exact ⟨p, q, (b.mp n).2⟩
    · rintro ⟨p, q, _⟩; exact ⟨⟨p, q⟩, n⟩
  | some h =>
    rw [hh] at b
    dsimp only
    split
    · rename_i hl
      constructor
      · intro z; exact z.elim
      · rintro ⟨p, q, r⟩
        have h3 := a.mpr ⟨p, q⟩
        have h4 := (b.mpr ⟨n, r⟩) h rfl
        omega
    · show lowA x 1 pre ≤ e ∧ below (some h) e ↔ _
      rw [a, b]
      constructor
      · rintro ⟨⟨p, q⟩, _, r⟩; exact ⟨p, q, r⟩
      · rintro ⟨p, q, r⟩; exact ⟨⟨p, q⟩, n, r⟩
theorem rng1_lo {x : Ln} {pre suf : List Ln} {lo : Int} {hi : Option Int} (h : rng1 x pre suf = some (lo, hi)) : below hi lo ∧ lo = lowA x 1 pre ∧ hi = highA x none suf := by
  unfold rng1 at h
  cases hh : highA x none suf with
  | none =>
    rw [hh] at h
    injection h with h
    injection h with h1 h2
    subst h1; subst h2
    exact ⟨(fun k z => by cases z), rfl, rfl⟩
  | some k =>
    rw [hh] at h
    dsimp only at h
    split at h
    · cases h
    · injection h with h
      injection h with h1 h2
      subst h1; subst h2
      exact ⟨(fun j z => by cases z; omega), rfl, rfl⟩
theorem low1 (x : Ln) : ∀ (ys : List Ln) (a : Int), a ≤ lowA x a ys
  | [], a => Int.le_refl _
  | y :: ys, a => by
    have := low1 x ys (max a (-((y.1 - x.1) / (y.2 - x.2))))
    rw [lowA]
    omega
theorem rngsA_at : ∀ (r pre : List Ln) (i : Nat), i < r.length → (rngsA pre r)[i]? = some (rng1 (r.getD i (0, 0)) (pre ++ r.take i) (r.drop (i + 1)))
  | [], _, _, h => by simp at h
  | x :: r, pre, 0, _ => by simp [rngsA]
  | x :: r, pre, i + 1, h => by
    have := rngsA_at r (pre ++ [x]) i (by simpa using h)
    rw [rngsA, List.getElem?_cons_succ, this, List.take_succ_cons, List.append_assoc]
    rfl
theorem rngsA_len : ∀ (r pre : List Ln), (rngsA pre r).length = r.length
  | [], _ => rfl
  | x :: r, pre => by rw [rngsA, List.length_cons, List.length_cons, rngsA_len r]
end Lw

namespace Lw
open PySem Ct L2
theorem low_loop (A B : Sl) (i : D) (x : Ln) (s8 s9 s10 : Sl) : ∀ (ys : List Ln) (a : Int) (s6 s7 : Sl), (∀ y ∈ ys, x.2 < y.2 ∧ y.2 ≤ 1000 * BB) → 0 ≤ x.2 → ∃ t6 t7, loopS (tgT [(tgN 6), (tgN 7)]) b_best_ranges_1 (ys.map lnD) [A, B, .va i, .va (.int x.1), .va (.int x.2), .va (.int a), s6, s7, s8, s9, s10] = .nx [A, B, .va i, .va (.int x.1), .va (.int x.2), .va (.int (lowA x a ys)), t6, t7, s8, s9, s10]
  | [], a, s6, s7, _, _ => ⟨s6, s7, by simp [loopS, lowA]⟩
  | y :: ys, a, s6, s7, h, hx => by
    obtain ⟨h1, h2⟩ := h y List.mem_cons_self
    have b1 := BC_big
    have b2 := BB_pos
    have dv := divC (x := y.1 - x.1) (y := y.2 - x.2) (by omega) (by omega)
    obtain ⟨t6, t7, e⟩ := low_loop A B i x s8 s9 s10 ys (max a (-((y.1 - x.1) / (y.2 - x.2)))) (.va (.int y.1)) (.va (.int y.2)) (fun z hz => h z (List.mem_cons_of_mem _ hz)) hx
    refine ⟨t6, t7, ?_⟩
    rw [lowA, ← e, List.map_cons]
    simp [loopS, b_best_ranges_1, lnD, dv]
theorem high_loop (A B : Sl) (i : D) (x : Ln) (s5 s7 : Sl) : ∀ (ys : List Ln) (a : Option Int) (s6 s9 s10 : Sl), (∀ y ∈ ys, y.2 < x.2 ∧ 0 ≤ y.2) → x.2 ≤ 1000 * BB → ∃ t6 t9 t10, loopS (tgT [(tgN 6), (tgN 9)]) b_best_ranges_2 (ys.map lnD) [A, B, .va i, .va (.int x.1), .va (.int x.2), s5, s6, s7, .va (capD a), s9, s10] = .nx [A, B, .va i, .va (.int x.1), .va (.int x.2), s5, t6, s7, .va (capD (highA x a ys)), t9, t10]
  | [], a, s6, s9, s10, _, _ => ⟨s6, s9, s10, by simp [loopS, highA]⟩
  | y :: ys, a, s6, s9, s10, h, hx => by
    obtain ⟨h1, h2⟩ := h y List.mem_cons_self
    have b1 := BC_big
    have b2 := BB_pos
    have dv := divC (x := y.1 - x.1) (y := x.2 - y.2) (by omega) (by omega)
    obtain ⟨t6, t9, t10, e⟩ := high_loop A B i x s5 s7 ys (stepH x a y) (.va (.int y.1)) (.va (.int y.2)) (.va (.int ((y.1 - x.1) / (x.2 - y.2)))) (fun z hz => h z (List.mem_cons_of_mem _ hz)) hx
    refine ⟨t6, t9, t10, ?_⟩
    rw [highA, ← e, List.map_cons]
    unfold stepH
    generalize (y.1 - x.1) / (x.2 - y.2) = q at *
    cases a with
    | none => simp [loopS, b_best_ranges_2, lnD, dv]
    | some k =>
      by_cases hq : q < k
      · simp [loopS, b_best_ranges_2, lnD, dv, hq]
      · simp [loopS, b_best_ranges_2, lnD, dv, hq]
theorem lnD_enum (ls : List Ln) : kEnu (lnsD ls) = .ok (enumD 0 (ls.map lnD)) := id rfl
theorem cut_ln (ls : List Ln) (k : Nat) : kSlice (lnsD ls) none (some (k : Int)) = .ok (.list ((ls.take k).map lnD)) := by
  show Rs.ok (PyData.list (cutD (ls.map lnD) none (some (k : Int)))) = _
  rw [cut_take]
theorem cut_ln2 (ls : List Ln) (k : Nat) : kSlice (lnsD ls) (some ((k : Int) + 1)) none = .ok (.list ((ls.drop (k + 1)).map lnD)) := by
  have : (k : Int) + 1 = ((k + 1 : Nat) : Int) := by omega
  rw [this]
  show Rs.ok (PyData.list (cutD (ls.map lnD) (some ((k + 1 : Nat) : Int)) none)) = _
  rw [cut_drop]
theorem ranges_loop (L : List Ln) (hd : Dec L) (hl : L.length ≤ 800) : ∀ (r : List Ln) (k : Nat) (acc : List D) (s2 s3 s4 s5 s6 s7 s8 s9 s10 : Sl), L.drop k = r → acc.length = k → ∃ t2 t3 t4 t5 t6 t7 t8 t9 t10, loopS (tgT [(tgN 2), (tgT [(tgN 3), (tgN 4)])]) b_best_ranges_3 (enumD k (r.map lnD)) [.va (lnsD L), .ow acc, s2, s3, s4, s5, s6, s7, s8, s9, s10] = .nx [.va (lnsD L), .ow (acc ++ (rngsA (L.take k) r).map rD), t2, t3, t4, t5, t6, t7, t8, t9, t10]
  | [], k, acc, s2, s3, s4, s5, s6, s7, s8, s9, s10, _, _ => ⟨s2, s3, s4, s5, s6, s7, s8, s9, s10, by simp [loopS, enumD, rngsA]⟩
  | x :: r, k, acc, s2, s3, s4, s5, s6, s7, s8, s9, s10, hdr, ha => by
    obtain ⟨ex, hd2⟩ := drop_at hdr
    have kl : k < L.length := (List.getElem?_eq_some_iff.mp ex).1
    have tk : L.take (k + 1) = L.take k ++ [x] := by
      obtain ⟨h, rfl⟩ := List.getElem?_eq_some_iff.mp ex
      exact List.take_succ_eq_append_getElem h
    have sp : L = L.take k ++ x :: r := by rw [← hdr]; exact (List.take_append_drop k L).symm
    have pw := hd.pw
    rw [sp, List.pairwise_append, List.pairwise_cons] at pw
    have xm : x ∈ L := List.mem_of_getElem? ex
    have h1 : ∀ y ∈ L.take k, x.2 < y.2 ∧ y.2 ≤ 1000 * BB := fun y hy => ⟨pw.2.2 y hy x List.mem_cons_self, hd.bd y (List.mem_of_mem_take hy)⟩
    have h2 : ∀ y ∈ r, y.2 < x.2 ∧ 0 ≤ y.2 := fun y hy => ⟨pw.2.1.1 y hy, hd.nn y (by rw [sp]; exact List.mem_append.mpr (.inr (List.mem_cons_of_mem _ hy)))⟩
    have lD : (lnD x) = .tuple [.int x.1, .int x.2] := rfl
    obtain ⟨t6, t7, e1⟩ := low_loop (.va (lnsD L)) (.ow acc) (.int (k : Int)) x s8 s9 s10 (L.take k) 1 s6 s7 h1 (hd.nn x xm)
    obtain ⟨u6, u9, u10, e2⟩ := high_loop (.va (lnsD L)) (.ow acc) (.int (k : Int)) x (.va (.int (lowA x 1 (L.take k)))) t7 r none t6 s9 s10 h2 (hd.bd x xm)
    obtain ⟨v2, v3, v4, v5, v6, v7, v8, v9, v10, e3⟩ := ranges_loop L hd hl r (k + 1) (acc ++ [rD (rng1 x (L.take k) r)]) (.va (.int (k : Int))) (.va (.int x.1)) (.va (.int x.2)) (.va (.int (lowA x 1 (L.take k)))) u6 t7 (.va (capD (highA x none r))) u9 u10 hd2 (by simp [ha])
    refine ⟨v2, v3, v4, v5, v6, v7, v8, v9, v10, ?_⟩
    rw [tk, List.append_assoc] at e3
    rw [rngsA, List.map_cons]
    refine Eq.trans ?_ e3
    have c1 := cut_ln L k
    have c2 := cut_ln2 L k
    rw [hd2] at c2
    have hz : acc.length < sizeLine := lt_size (by omega)
    have bd : b_best_ranges_3 [.va (lnsD L), .ow acc, .va (.int (k : Int)), .va (.int x.1), .va (.int x.2), s5, s6, s7, s8, s9, s10] = .nx [.va (lnsD L), .ow (acc ++ [rD (rng1 x (L.take k) r)]), .va (.int (k : Int)), .va (.int x.1), .va (.int x.2), .va (.int (lowA x 1 (L.take k))), u6, t7, .va (capD (highA x none r)), u9, u10] := by
      unfold b_best_ranges_3 rng1
      generalize lnsD L = LD at *
      generalize (L.take k).map lnD = T1 at *
      generalize r.map lnD = T2 at *
      generalize lowA x 1 (L.take k) = lo at *
      generalize highA x none r = hi at *
      simp only [capD_n] at e2
      cases hi with
      | none => simp [c1, e1, c2, e2, mAppend, hz, rD]
      | some h =>
        by_cases hlo : h < lo
        · simp [c1, e1, c2, e2, mAppend, hz, rD, hlo]
        · simp [c1, e1, c2, e2, mAppend, hz, rD, hlo]
    generalize rD (rng1 x (L.take k) r) = RR at *
    generalize r.map lnD = T2 at *
    simp [loopS, enumD, lnD, bd]
theorem ranges_ok (L : List Ln) (hd : Dec L) (hl : L.length ≤ 800) : f_best_ranges [lnsD L] = .ok (.list ((rngsA [] L).map rD)) := by
  rw [u_best_ranges]
  unfold g_best_ranges
  obtain ⟨t2, t3, t4, t5, t6, t7, t8, t9, t10, e⟩ := ranges_loop L hd hl L 0 [] .un .un .un .un .un .un .un .un .un rfl rfl
  have en := lnD_enum L
  rw [List.take_zero, List.nil_append] at e
  generalize (rngsA [] L).map rD = A at *
  generalize enumD 0 (L.map lnD) = E at *
  simp [en, e]
end Lw

namespace Lw
open PySem Ct L2
abbrev Pc := Nat × Int × Option Int
def pcD (l : List Per) (p : Pc) : D := .tuple [.int p.1, .int p.2.1, capD p.2.2, .int (base l p.1), .int (rate l p.1)]
def pcA : Nat → List (Option (Int × Option Int)) → List Pc
  | _, [] => []
  | k, none :: r => pcA (k + 1) r
  | k, some (lo, hi) :: r => (k, lo, hi) :: pcA (k + 1) r
def pcs (l : List Per) : List Pc := pcA 0 (rngsA [] (lnl l))
def pcsD (l : List Per) : D := .list ((pcs l).map (pcD l))
theorem pcA_mem : ∀ (r : List (Option (Int × Option Int))) (k : Nat) (p : Pc), p ∈ pcA k r ↔ k ≤ p.1 ∧ r[p.1 - k]? = some (some (p.2.1, p.2.2))
  | [], k, p => by simp [pcA]
  | none :: r, k, p => by
    rw [pcA, pcA_mem r (k + 1) p]
    constructor
    · rintro ⟨a, b⟩
      refine ⟨by omega, ?_⟩
      rw [show p.1 - k = (p.1 - (k + 1)) + 1 by omega, List.getElem?_cons_succ]
      exact b
    · rintro ⟨a, b⟩
      by_cases z : p.1 = k
      · rw [z, Nat.sub_self] at b; simp at b
      · refine ⟨by omega, ?_⟩
        rw [show p.1 - k = (p.1 - (k + 1)) + 1 by omega, List.getElem?_cons_succ] at b
        exact b
  | some (lo, hi) :: r, k, p => by
    rw [pcA, List.mem_cons, pcA_mem r (k + 1) p]
    constructor
    · rintro (h | ⟨a, b⟩)
      · subst h
        exact ⟨Nat.le_refl _, by simp⟩
      · refine ⟨by omega, ?_⟩
        rw [show p.1 - k = (p.1 - (k + 1)) + 1 by omega, List.getElem?_cons_succ]
        exact b
    · rintro ⟨a, b⟩
      by_cases z : p.1 = k
      · rw [z, Nat.sub_self] at b
        simp at b
        left
        obtain ⟨p1, p2, p3⟩ := p
        dsimp only at z b
        rw [z, b.1, b.2]
      · right
        refine ⟨by omega, ?_⟩
        rw [show p.1 - k = (p.1 - (k + 1)) + 1 by omega, List.getElem?_cons_succ] at b
        exact b
theorem pcA_ge {r : List (Option (Int × Option Int))} {k : Nat} {p : Pc} (h : p ∈ pcA k r) : k ≤ p.1 := ((pcA_mem r k p).mp h).1
theorem pcA_pw : ∀ (r : List (Option (Int × Option Int))) (k : Nat), (pcA k r).Pairwise fun a b => a.1 < b.1
  | [], _ => List.Pairwise.nil
  | none :: r, k => pcA_pw r (k + 1)
  | some (lo, hi) :: r, k => by
    rw [pcA, List.pairwise_cons]
    exact ⟨fun b hb => by have := pcA_ge hb; show k < b.1; omega, pcA_pw r (k + 1)⟩
theorem lnl_len (l : List Per) : (lnl l).length = l.length := by simp [lnl]
theorem lnl_get (l : List Per) {j : Nat} (h : j < l.length) : (lnl l).getD j (0, 0) = (base l j, rate l j) := by
  unfold lnl
  rw [List.getD_eq_getElem?_getD, List.getElem?_map, List.getElem?_range h]
  rfl
theorem at1_V (l : List Per) (j : Nat) (e : Int) : at1 (base l j, rate l j) e = V l l.length j e := (line_at l j e).symm
theorem lnl_mem_take (l : List Per) {j : Nat} (h : j ≤ l.length) (y : Ln) : y ∈ (lnl l).take j ↔ ∃ i, i < j ∧ y = (base l i, rate l i) := by
  unfold lnl
  rw [← List.map_take, List.take_range, Nat.min_eq_left h, List.mem_map]
  constructor
  · rintro ⟨i, a, b⟩; exact ⟨i, List.mem_range.mp a, b.symm⟩
  · rintro ⟨i, a, b⟩; exact ⟨i, List.mem_range.mpr a, b.symm⟩
theorem lnl_mem_drop (l : List Per) {j : Nat} (y : Ln) : y ∈ (lnl l).drop j ↔ ∃ i, j ≤ i ∧ i < l.length ∧ y = (base l i, rate l i) := by
  unfold lnl
  rw [← List.map_drop, List.mem_map]
  constructor
  · rintro ⟨i, a, b⟩
    rw [List.range_eq_range', List.drop_range', List.mem_range'_1] at a
    exact ⟨i, by omega, by omega, b.symm⟩
  · rintro ⟨i, a, a2, b⟩
    refine ⟨i, ?_, b.symm⟩
    rw [List.range_eq_range', List.drop_range', List.mem_range'_1]
    omega
theorem pc_spec {l : List Per} (hg : Gds l) {j : Nat} (hj : j < l.length) : ∃ r, (rngsA [] (lnl l))[j]? = some r ∧ ∀ e, inR r e ↔ 1 ≤ e ∧ ∀ i, i < l.length → V l l.length j e ≤ V l l.length i e := by
  refine ⟨_, rngsA_at (lnl l) [] j (by rw [lnl_len]; exact hj), fun e => ?_⟩
  rw [lnl_get l hj, List.nil_append, rng1_spec _ _ _ e (fun y hy => ?_) (fun y hy => ?_)]
  · constructor
    · rintro ⟨a, b, c⟩
      refine ⟨a, fun i hi => ?_⟩
      rw [← at1_V l j e, ← at1_V l i e]
      rcases Nat.lt_trichotomy i j with h | h | h
      · exact b _ ((lnl_mem_take l (by omega) _).mpr ⟨i, h, rfl⟩)
      · rw [h]; exact Int.le_refl _
      · exact c _ ((lnl_mem_drop l _).mpr ⟨i, by omega, hi, rfl⟩)
    · rintro ⟨a, b⟩
      refine ⟨a, fun y hy => ?_, fun y hy => ?_⟩
      · obtain ⟨i, i1, rfl⟩ := (lnl_mem_take l (by omega) _).mp hy
        rw [at1_V, at1_V]; exact b i (by omega)
      · obtain ⟨i, i1, i2, rfl⟩ := (lnl_mem_drop l _).mp hy
        rw [at1_V, at1_V]; exact b i i2
  · obtain ⟨i, i1, rfl⟩ := (lnl_mem_take l (by omega) _).mp hy
    exact rate_dec hg i1 (by omega)
  · obtain ⟨i, i1, i2, rfl⟩ := (lnl_mem_drop l _).mp hy
    exact rate_dec hg (by omega) (by omega)
theorem LC_iff {l : List Per} (hg : Gds l) {j : Nat} (hj : j < l.length) {e : Int} (he : 1 ≤ e) : V l l.length j e = LC l e ↔ ∀ i, i < l.length → V l l.length j e ≤ V l l.length i e := by
  constructor
  · intro h i hi
    rw [h]; exact LC_le hg hi
  · intro h
    obtain ⟨i, i1, i2⟩ := LC_at (l := l) (e := e) (by omega) (by omega)
    have := h i i1
    have := LC_le hg (e := e) hj
    omega
theorem pcs_spec {l : List Per} (hg : Gds l) {j : Nat} (hj : j < l.length) {e : Int} (he : 1 ≤ e) : V l l.length j e = LC l e ↔ ∃ lo hi, (j, lo, hi) ∈ pcs l ∧ lo ≤ e ∧ below hi e := by
  obtain ⟨r, h1, h2⟩ := pc_spec hg hj
  rw [LC_iff hg hj he]
  have := h2 e
  constructor
  · intro h
    have g := this.mpr ⟨he, h⟩
    cases r with
    | none => exact g.elim
    | some q => exact ⟨q.1, q.2, (pcA_mem _ 0 _).mpr ⟨Nat.zero_le _, h1⟩, g⟩
  · rintro ⟨lo, hi, a, b⟩
    have h3 := ((pcA_mem _ 0 _).mp a).2
    rw [Nat.sub_zero, h1] at h3
    injection h3 with h3
    subst h3
    exact (this.mp b).2
theorem pcs_lt {l : List Per} {p : Pc} (h : p ∈ pcs l) : p.1 < l.length := by
  have := ((pcA_mem _ 0 _).mp h).2
  have := (List.getElem?_eq_some_iff.mp this).1
  rw [rngsA_len, lnl_len] at this
  omega
theorem pcs_lo {l : List Per} (hg : Gds l) {j : Nat} {lo : Int} {hi : Option Int} (h : (j, lo, hi) ∈ pcs l) : 1 ≤ lo ∧ below hi lo ∧ V l l.length j lo = LC l lo := by
  have hj := pcs_lt h
  have h3 := ((pcA_mem _ 0 _).mp h).2
  rw [Nat.sub_zero, rngsA_at (lnl l) [] j (by rw [lnl_len]; exact hj)] at h3
  injection h3 with h3
  obtain ⟨a, b, c⟩ := rng1_lo h3
  have h1 : 1 ≤ lo := by
    have b : lo = _ := b
    have := low1 ((lnl l).getD j (0, 0)) ([] ++ (lnl l).take j) 1
    omega
  exact ⟨h1, a, (pcs_spec hg hj h1).mpr ⟨lo, hi, h, Int.le_refl _, a⟩⟩
theorem pcs_pw {l : List Per} (hg : Gds l) : (pcs l).Pairwise fun a b => a.1 < b.1 ∧ a.2.1 ≤ b.2.1 := by
  refine List.Pairwise.imp_of_mem ?_ (pcA_pw (rngsA [] (lnl l)) 0)
  intro a b ha hb h
  refine ⟨h, ?_⟩
  obtain ⟨ja, la, ia⟩ := a
  obtain ⟨jb, lb, ib⟩ := b
  obtain ⟨a1, a2, a3⟩ := pcs_lo hg ha
  obtain ⟨b1, b2, b3⟩ := pcs_lo hg hb
  have aj : ja < l.length := pcs_lt ha
  have bj : jb < l.length := pcs_lt hb
  have h : ja < jb := h
  show la ≤ lb
  by_cases hc : la ≤ lb
  · exact hc
  · exfalso
    have hlt : lb < la := by omega
    have e1 : V l l.length ja la ≤ V l l.length jb la := by rw [a3]; exact LC_le hg bj
    rw [line_at, line_at] at e1
    have rd := rate_dec hg h (by omega)
    have e2 : V l l.length ja lb ≤ V l l.length jb lb := by
      rw [line_at, line_at]
      have := Int.mul_le_mul_of_nonneg_left (show lb ≤ la by omega) (show 0 ≤ rate l ja - rate l jb by omega)
      have g1 : (rate l ja - rate l jb) * lb = rate l ja * lb - rate l jb * lb := Int.sub_mul _ _ _
      have g2 : (rate l ja - rate l jb) * la = rate l ja * la - rate l jb * la := Int.sub_mul _ _ _
      omega
    have e3 : V l l.length ja lb = LC l lb := by
      have := LC_le hg (e := lb) aj
      omega
    obtain ⟨lo, hi, k1, k2, k3⟩ := (pcs_spec hg aj b1).mp e3
    have h3 := ((pcA_mem _ 0 _).mp ha).2
    have h4 := ((pcA_mem _ 0 _).mp k1).2
    rw [h3] at h4
    injection h4 with h4
    injection h4 with h4
    injection h4 with h4 h5
    dsimp only at h4
    omega
theorem prof_loop (l : List Per) (hl : l.length ≤ 800) : ∀ (r : List (Option (Int × Option Int))) (k : Nat) (acc : List Pc) (s3 s4 : Sl), k + r.length ≤ l.length → acc.length ≤ k → ∃ t3 t4, loopS (tgT [(tgN 3), (tgN 4)]) b_profile_pieces_1 (enumD k (r.map rD)) [.va (rowsD l), .va (linesD l), .ow (acc.map (pcD l)), s3, s4] = .nx [.va (rowsD l), .va (linesD l), .ow ((acc ++ pcA k r).map (pcD l)), t3, t4]
  | [], k, acc, s3, s4, _, _ => ⟨s3, s4, by simp [loopS, enumD, pcA]⟩
  | none :: r, k, acc, s3, s4, h, ha => by
    rw [List.length_cons] at h
    obtain ⟨t3, t4, e⟩ := prof_loop l hl r (k + 1) acc (.va (.int (k : Int))) (.va .none) (by omega) (by omega)
    refine ⟨t3, t4, ?_⟩
    rw [pcA, ← e]
    generalize acc.map (pcD l) = A at *
    simp [loopS, enumD, rD, b_profile_pieces_1]
  | some (lo, hi) :: r, k, acc, s3, s4, h, ha => by
    rw [List.length_cons] at h
    obtain ⟨t3, t4, e⟩ := prof_loop l hl r (k + 1) (acc ++ [(k, lo, hi)]) (.va (.int (k : Int))) (.va (rD (some (lo, hi)))) (by omega) (by simp; omega)
    refine ⟨t3, t4, ?_⟩
    have ll : acc ++ pcA k (some (lo, hi) :: r) = acc ++ [(k, lo, hi)] ++ pcA (k + 1) r := by
      rw [pcA, List.append_assoc]
      rfl
    rw [ll, ← e]
    have li := line_ix (l := l) (k := (k : Int)) (by omega) (by omega)
    rw [Int.toNat_natCast] at li
    have i0 : sIx (rD (some (lo, hi))) (.int 0) = .ok (.int lo) := ix_tup (by omega) rfl
    have i1 : sIx (rD (some (lo, hi))) (.int 1) = .ok (capD hi) := ix_tup (by omega) rfl
    have nn : sNotN (rD (some (lo, hi))) = .ok (.bool true) := rfl
    have hz : (acc.map (pcD l)).length < sizeLine := lt_size (by rw [List.length_map]; omega)
    have pe : pcD l (k, lo, hi) = .tuple [.int (k : Int), .int lo, capD hi, .int (base l k), .int (rate l k)] := rfl
    have bd : b_profile_pieces_1 [.va (rowsD l), .va (linesD l), .ow (acc.map (pcD l)), .va (.int (k : Int)), .va (rD (some (lo, hi)))] = .nx [.va (rowsD l), .va (linesD l), .ow ((acc ++ [(k, lo, hi)]).map (pcD l)), .va (.int (k : Int)), .va (rD (some (lo, hi)))] := by
      rw [List.map_append, List.map_singleton, pe]
      unfold b_profile_pieces_1
      generalize acc.map (pcD l) = A at *
      generalize rD (some (lo, hi)) = RR at *
      simp [nn, i0, i1, li, mAppend, hz]
    rw [List.map_cons]
    generalize (acc ++ [(k, lo, hi)]).map (pcD l) = A' at *
    generalize rD (some (lo, hi)) = RR at *
    simp [loopS, enumD, bd]
theorem pieces_ok (l : List Per) (hg : Gds l) (hl : l.length ≤ 400) : f_profile_pieces [rowsD l] = .ok (pcsD l) := by
  rw [u_profile_pieces]
  unfold g_profile_pieces
  have li := lines_ok l hg (by omega)
  have rg := ranges_ok (lnl l) (lnl_dec hg (by omega)) (by rw [lnl_len]; omega)
  rw [← lnl_D] at rg
  obtain ⟨t3, t4, e⟩ := prof_loop l (by omega) (rngsA [] (lnl l)) 0 [] .un .un (by rw [rngsA_len, lnl_len]; omega) (by simp)
  have en : kEnu (.list ((rngsA [] (lnl l)).map rD)) = .ok (enumD 0 ((rngsA [] (lnl l)).map rD)) := id rfl
  have fin : PyData.list ((pcA 0 (rngsA [] (lnl l))).map (pcD l)) = pcsD l := rfl
  rw [List.nil_append, List.map_nil] at e
  generalize (pcA 0 (rngsA [] (lnl l))).map (pcD l) = A at *
  generalize PyData.list ((rngsA [] (lnl l)).map rD) = RL at *
  generalize enumD 0 ((rngsA [] (lnl l)).map rD) = E at *
  simp [li, rg, en, e, fin]
end Lw

namespace Ct
open PySem PySem.Spec PyProof.Rows L2

def kidE : List Str → List (D × D) → Option (List D)
  | [], [] => some []
  | n :: ns, (.str m, d) :: es => if m = n then (kidE ns es).map (d :: ·) else none
  | _, _ => none
def objS (C : Addr) (ns : List Str) : D → Option (List D)
  | .dict ((.none, .int c) :: es) => if c = (C : Nat) then kidE ns es else none
  | _ => none
theorem kidE_ob (C : Addr) : ∀ {ns : List Str} {ds : List D}, ns.length = ds.length → kidE ns (obE C ns ds) = some ds
  | [], [], _ => rfl
  | n :: ns, d :: ds, h => by
    show (if n = n then (kidE ns (obE C ns ds)).map (d :: ·) else none) = _
    rw [if_pos rfl, kidE_ob C (by simpa using h)]
    rfl
  | [], _ :: _, h => by simp at h
  | _ :: _, [], h => by simp at h
theorem ob_kidE (C : Addr) : ∀ {ns : List Str} {es : List (D × D)} {ds : List D}, kidE ns es = some ds → es = obE C ns ds ∧ ns.length = ds.length
  | [], [], ds, h => by cases h; exact ⟨rfl, rfl⟩
  | n :: ns, (.str m, d) :: es, ds, h => by
    by_cases e : m = n
    · have h2 : (if m = n then (kidE ns es).map (d :: ·) else none) = some ds := h
      rw [if_pos e] at h2
      subst e
      cases e2 : kidE ns es with
      | none => rw [e2] at h2; cases h2
      | some ds' =>
        rw [e2] at h2
        cases h2
        obtain ⟨a, b⟩ := ob_kidE C e2
        exact ⟨by rw [a]; rfl, by simp [b]⟩
    · have h2 : (if m = n then (kidE ns es).map (d :: ·) else none) = some ds := h
      rw [if_neg e] at h2
      cases h2
  | [], _ :: _, _, h => by cases h
  | _ :: _, [], _, h => by cases h
  | _ :: _, (.none, _) :: _, _, h => by cases h
  | _ :: _, (.bool _, _) :: _, _, h => by cases h
  | _ :: _, (.int _, _) :: _, _, h => by cases h
  | _ :: _, (.list _, _) :: _, _, h => by cases h
  | _ :: _, (.tuple _, _) :: _, _, h => by cases h
  | _ :: _, (.dict _, _) :: _, _, h => by cases h
theorem objS_ob {C : Addr} {ns : List Str} {ds : List D} (h : ns.length = ds.length) : objS C ns (objD C ns ds) = some ds := by
  show (if ((C : Nat) : Int) = (C : Nat) then kidE ns (obE C ns ds) else none) = _
  rw [if_pos rfl, kidE_ob C h]
theorem ob_objS {C : Addr} {ns : List Str} {d : D} {ds : List D} (h : objS C ns d = some ds) : d = objD C ns ds ∧ ns.length = ds.length := by
  unfold objS at h
  split at h
  · split at h
    · rename_i c es e
      obtain ⟨a, b⟩ := ob_kidE C h
      refine ⟨?_, b⟩
      rw [a, e]
      rfl
    · cases h
  · cases h
theorem obE_inj2 {C C' : Addr} : ∀ {ns ms : List Str} {ds es : List D}, ns.length = ds.length → ms.length = es.length → obE C ns ds = obE C' ms es → ns = ms ∧ ds = es
  | [], [], [], [], _, _, _ => ⟨rfl, rfl⟩
  | n :: ns, m :: ms, d :: ds, e :: es, h1, h2, h => by
    have h : (PyData.str n, d) :: obE C ns ds = (PyData.str m, e) :: obE C' ms es := h
    cases List.cons.inj h with
    | intro a b =>
      cases a
      obtain ⟨x, y⟩ := obE_inj2 (by simpa using h1) (by simpa using h2) b
      rw [x, y]
      exact ⟨rfl, rfl⟩
  | [], m :: ms, [], e :: es, _, _, h => by cases h
  | n :: ns, [], d :: ds, [], _, _, h => by cases h
  | [], _, _ :: _, _, h, _, _ => by simp at h
  | _ :: _, _, [], _, h, _, _ => by simp at h
  | _, [], _, _ :: _, _, h, _ => by simp at h
  | _, _ :: _, _, [], _, h, _ => by simp at h
theorem objD_inj2 {C C' : Addr} {ns ms : List Str} {ds es : List D} (h1 : ns.length = ds.length) (h2 : ms.length = es.length) (h : objD C ns ds = objD C' ms es) : C = C' ∧ ns = ms ∧ ds = es := by
  have h := List.cons.inj (PyData.dict.inj h)
  refine ⟨?_, obE_inj2 h1 h2 h.2⟩
  have := congrArg Prod.snd h.1
  have := PyData.int.inj this
  exact Int.ofNat.inj this
theorem RT.obj {H G : Hp} {k : Sh} {v : V} {d : D} {fp : List Addr} {C : Addr} {ns : List Str} {ds : List D} (r : RT H G k v d fp) (hk : k.node = true) (ho : objS C ns d = some ds) :
    ∃ p dx fs f', v = .ref p ∧ fp = p :: f' ∧ H p = some (.ins C dx fs) ∧ fs.map (·.1) = ns ∧ G p = none ∧ RTL H G k (fs.map (·.2)) ds f' := by
  obtain ⟨e, hl⟩ := ob_objS ho
  cases r with
  | good _ => cases hk
  | hole => cases hk
  | sc s _ => rw [e] at s; cases s
  | lst _ _ _ _ => cases e
  | tup _ _ _ _ => cases e
  | ins n z h g rl =>
    rename_i C' dx fs ds' f'
    rw [z] at e
    have l1 := rl.length
    rw [List.length_map] at l1
    obtain ⟨a, b, c⟩ := objD_inj2 (by rw [List.length_map]; exact l1) hl e
    subst a
    subst c
    exact ⟨_, dx, fs, f', rfl, rfl, h, b, g, rl⟩
theorem RpF.fs {G : Hp} (C : Addr) : ∀ {fs : List (Str × V)} {ns : List Str} {ds : List D}, ns.length = ds.length → RpF G fs (obE C ns ds) → fs.map (·.1) = ns ∧ RpL G (fs.map (·.2)) ds
  | [], [], [], _, _ => ⟨rfl, .nil⟩
  | (f, v) :: fs, n :: ns, d :: ds, h, r => by
    have r : RpF G ((f, v) :: fs) ((.str n, d) :: obE C ns ds) := r
    cases r with
    | cons a b =>
      obtain ⟨x, y⟩ := RpF.fs C (by simpa using h) b
      exact ⟨by rw [List.map_cons, x], .cons a y⟩
  | [], n :: ns, d :: ds, _, r => by cases r
  | _ :: _, [], [], _, r => by cases r
  | _, [], _ :: _, h, _ => by simp at h
  | _, _ :: _, [], h, _ => by simp at h
theorem Rp.obj {G : Hp} {v : V} {d : D} {C : Addr} {ns : List Str} {ds : List D} (r : Rp G v d) (ho : objS C ns d = some ds) : ∃ p dx fs, v = .ref p ∧ G p = some (.ins C dx fs) ∧ fs.map (·.1) = ns ∧ RpL G (fs.map (·.2)) ds := by
  obtain ⟨e, hl⟩ := ob_objS ho
  cases r with
  | non => cases e
  | bl _ => cases e
  | int _ => cases e
  | lst _ _ => cases e
  | tup _ _ => cases e
  | scr _ _ => cases e
  | dct h hk =>
    have e := PyData.dict.inj e
    subst e
    cases hk
  | ins h hf =>
    have e := List.cons.inj (PyData.dict.inj e)
    have a := PyData.int.inj (congrArg Prod.snd e.1)
    have a := Int.ofNat.inj a
    subst a
    rw [e.2] at hf
    obtain ⟨x, y⟩ := RpF.fs _ hl hf
    exact ⟨_, _, _, rfl, h, x, y⟩
theorem look_at {f : Str} {v : V} : ∀ {fs : List (Str × V)} {ns : List Str} {n : Nat}, fs.map (·.1) = ns → ns.Nodup → ns[n]? = some f → (fs.map (·.2))[n]? = some v → fs.lookup f = some v
  | [], _, _, e, _, h, _ => by subst e; simp at h
  | (g, x) :: fs, _, 0, e, _, h, hv => by
    subst e
    cases Option.some.inj h
    cases Option.some.inj hv
    simp [List.lookup]
  | (g, x) :: fs, _, n + 1, e, nd, h, hv => by
    subst e
    rw [List.map_cons, List.nodup_cons] at nd
    have h : (fs.map (·.1))[n]? = some f := h
    have ne : (f == g) = false := beq_eq_false_iff_ne.mpr fun z => nd.1 (z ▸ List.mem_of_getElem? h)
    show List.lookup f ((g, x) :: fs) = some v
    simp only [List.lookup, ne]
    exact look_at rfl nd.2 h hv
theorem look_no {f : Str} : ∀ {fs : List (Str × V)} {ns : List Str}, fs.map (·.1) = ns → f ∉ ns → fs.lookup f = none
  | [], _, _, _ => rfl
  | (g, x) :: fs, _, e, h => by
    subst e
    rw [List.map_cons, List.mem_cons, not_or] at h
    have ne : (f == g) = false := beq_eq_false_iff_ne.mpr h.1
    show List.lookup f ((g, x) :: fs) = none
    simp only [List.lookup, ne]
    exact look_no rfl h.2
theorem putF_new {f : Str} {v : V} : ∀ {fs : List (Str × V)} {ns : List Str}, fs.map (·.1) = ns → f ∉ ns → (putF f v fs).map (·.1) = ns ++ [f] ∧ (putF f v fs).map (·.2) = fs.map (·.2) ++ [v]
  | [], _, e, _ => by subst e; exact ⟨rfl, rfl⟩
  | (g, x) :: fs, _, e, h => by
    subst e
    rw [List.map_cons, List.mem_cons, not_or] at h
    show ((if g = f then (g, v) :: fs else (g, x) :: putF f v fs).map (·.1) = _) ∧ (if g = f then (g, v) :: fs else (g, x) :: putF f v fs).map (·.2) = _
    rw [if_neg (Ne.symm h.1)]
    obtain ⟨a, b⟩ := putF_new (v := v) (fs := fs) rfl h.2
    exact ⟨by rw [List.map_cons, a]; rfl, by rw [List.map_cons, b]; rfl⟩
structure ClO (K : PySem.W.Frag) (C : Addr) (ns : List Str) : Prop where
  cl : Cls K C
  na : ∀ f ∈ ns, NoAttr K C f
  nd : ns.Nodup
end Ct

namespace Ct
open PySem PySem.Spec PyProof.Rows L2

def treeAt (ρ : Rho) (i : Nat) : Option (Sh × D) := match ρ[i]? with
  | some (.ot k d) => some (k, d)
  | some (.br k d) => some (k, d)
  | _ => none
theorem Ok.tree {S : Sx} {H0 G0 H G : Hp} {σ : St} {ρ : Rho} {i : Nat} {k : Sh} {d : D} (q : Ok S H0 G0 σ H G ρ) (h : treeAt ρ i = some (k, d)) : ∃ v fp, σ[i]? = some (some v) ∧ RT H G k v d fp := by
  unfold treeAt at h
  split at h
  · rename_i e
    cases h
    obtain ⟨ov, e1, v, fp, rfl, r, _⟩ := q.sl i _ e
    exact ⟨v, fp, e1, r⟩
  · rename_i e
    cases h
    obtain ⟨ov, e1, v, fp, rfl, r, _⟩ := q.sl i _ e
    exact ⟨v, fp, e1, r⟩
  · cases h
theorem RT.to_g {H G : Hp} {v : V} {d : D} {f : List Addr} (r : RT H G .g v d f) : Rp G v d := by
  cases r with
  | good h => exact h
  | sc _ h => exact h
  | lst n _ _ _ => cases n
  | tup n _ _ _ => cases n
  | ins n _ _ _ _ => cases n
def fFld (C : Addr) (ns : List Str) (i m : Nat) : Rho → Rs D := fun ρ => match treeAt ρ i with
  | some (k, d) => match objS C ns d with
    | some ds => match ds[m]? with
      | some x => if k.node = true ∧ k.at' m = .g then .ok x else .stuck
      | none => .stuck
    | none => .stuck
  | none => .stuck
def fFldS (C : Addr) (ns : List Str) (i m : Nat) : Rho → Rs D := fun ρ => match treeAt ρ i with
  | some (k, d) => match objS C ns d with
    | some ds => match ds[m]? with
      | some (.list es) => if k.node = true ∧ k.at' m = .r .g then .ok (.list es) else .stuck
      | _ => .stuck
    | none => .stuck
  | none => .stuck
def fFldG (C : Addr) (ns : List Str) (m : Nat) (fe : Rho → Rs D) : Rho → Rs D := fun ρ => (fe ρ).bind fun d => match objS C ns d with
  | some ds => match ds[m]? with
    | some x => .ok x
    | none => .stuck
  | none => .stuck
def fFldNew (C : Addr) (ns : List Str) (f : Str) (i : Nat) (s : Sh) (fe : Rho → Rs D) : Rho → Out := fun ρ => match ρ[i]? with
  | some (.ot k d) => match objS C ns d with
    | some ds => if k.node = true ∧ k.at' ds.length = s then (fe ρ).out ρ fun x => .nx (ρ.set i (.ot k (objD C (ns ++ [f]) (ds ++ [x])))) else .stuck
    | none => .stuck
  | _ => .stuck
def fFldPut (C : Addr) (ns : List Str) (i m : Nat) (fe : Rho → Rs D) : Rho → Out := fun ρ => match ρ[i]? with
  | some (.ot k d) => match objS C ns d with
    | some ds => if k.node = true ∧ k.at' m = .g ∧ m < ds.length then (fe ρ).out ρ fun x => .nx (ρ.set i (.ot k (objD C ns (ds.set m x)))) else .stuck
    | none => .stuck
  | _ => .stuck
def fFldAug (C : Addr) (ns : List Str) (i m : Nat) (fe : Rho → Rs D) : Rho → Out := fun ρ => match ρ[i]? with
  | some (.ot k d) => match objS C ns d with
    | some ds => match ds[m]? with
      | some (.int a) => if k.node = true ∧ k.at' m = .g then (fe ρ).out ρ fun x => match x with
        | .int b => .nx (ρ.set i (.ot k (objD C ns (ds.set m (.int (a + b))))))
        | _ => .stuck
        else .stuck
      | _ => .stuck
    | none => .stuck
  | _ => .stuck
def fFldExt (C : Addr) (ns : List Str) (i m : Nat) (fe : Rho → Rs (List D)) : Rho → Out := fun ρ => match ρ[i]? with
  | some (.ot k d) => match objS C ns d with
    | some ds => match ds[m]? with
      | some (.list es) => if k.node = true ∧ k.at' m = .r .g then (fe ρ).out ρ fun as => (mExtend es as).out ρ fun es' => .nx (ρ.set i (.ot k (objD C ns (ds.set m (.list es')))))
        else .stuck
      | _ => .stuck
    | none => .stuck
  | _ => .stuck
section
variable {S : Sx} {kd : Kd} {C : Addr} {ns : List Str} {f x : Str} {i m : Nat} {p pos pos' : Pos} {e : Expr} {fe : Rho → Rs D} {s : Sh}
theorem fld_at {H : Hp} {K : PySem.W.Frag} (O : ClO K C ns) {q dx : Addr} {fs : List (Str × V)} {v : V} (hm : ns[m]? = some f) (en : fs.map (·.1) = ns) (ev : (fs.map (·.2))[m]? = some v) (hq : H q = some (.ins C dx fs)) {Q : VK} (h : Q v H) :
    ∃ a C dx fs v, V.ref q = V.ref a ∧ H a = some (.ins C dx fs) ∧ Cls K C ∧ NoAttr K C f ∧ fs.lookup f = some v ∧ Q v H :=
  ⟨q, C, dx, fs, v, rfl, hq, O.cl, O.na f (List.mem_of_getElem? hm), look_at en O.nd hm ev, h⟩
theorem xfldG (O : ClO S.X.K C ns) (hm : ns[m]? = some f) (h : XX S .e e fe) (hb : attributeBase e f S.X.env (eval e S.X.env) = eval e S.X.env := by rfl) : XX S .e (.Attribute e f pos) (fFldG C ns m fe) :=
  let ⟨_, a1, a2⟩ := h; ⟨_, pe_fld a1 hb, fun H0 G0 σ H G ρ Q q w => by
    refine a2 H0 G0 σ H G ρ _ q (Wp.imp w.bind (fun d wd v H1 G1 s1 r1 => ?_) fun _ z => z)
    split at wd
    · rename_i ds eo
      split at wd
      · rename_i y ey
        obtain ⟨a, dx, fs, rfl, ha, en, rl⟩ := Rp.obj r1 eo
        obtain ⟨u, ev, ru⟩ := rl.get ey
        exact fld_at O hm en ev (s1.sub _ _ ha) (wp_ok wd _ H1 G1 s1 ru)
      · exact wd.elim
    · exact wd.elim⟩
theorem xs_fldNew (cl : Cls S.X.K C) (na : NoAttr S.X.K C f) (hf : f ∉ ns) (hn : ns.length < 1000) (hv : PE S.X (.Name x p) (tVar i)) (h : XX S (.w s) e fe) (hs : swapsWith e (some (.Attribute (.Name x p) f pos')) pos.line S.X.env = pure false := by rfl) : XS S kd (.Assign [.Attribute (.Name x p) f pos'] e pos) (fFldNew C ns f i s fe) :=
  let ⟨_, a1, a2⟩ := h; ⟨_, ps_fld hv a1 hs, fun H0 G0 σ H G ρ N q w => by
    unfold fFldNew at w
    split at w
    · rename_i k d eo
      obtain ⟨ov, e1, v, fp, rfl, h1, h2, h3⟩ := q.sl i _ eo
      split at w
      · rename_i ds ed
        split at w
        · rename_i hk
          obtain ⟨a, dx, fs, fp, rfl, rfl, ha, en, ga, rl⟩ := h1.obj hk.1 ed
          refine a2 H0 G0 σ H G ρ _ q (Wp.imp (wp_out q w) (fun y wd u H1 G1 s1 r1 => ?_) fun _ z => z)
          obtain ⟨f1, r1, n1, p1⟩ := r1
          rw [← hk.2] at r1
          have hl : fs.length = ns.length := by rw [← en, List.length_map]
          refine ⟨_, e1, a, C, dx, fs, rfl, s1.hh _ _ ha, cl, na, by rw [hl]; exact hn, ?_⟩
          obtain ⟨z1, z2⟩ := putF_new (v := u) en hf
          have naf : a ∉ f1 := fun z => by
            have := p1 a z
            rw [ha] at this
            cases this
          have nd := List.nodup_cons.mp h2
          have rl1 := rl.step s1
          have up : ∀ q, q ≠ a → upd H1 a (HO.ins C dx (putF f u fs)) q = H1 q := fun q hq => upd_ne hq
          have g1 := s1.sep a ga (by rw [ha]; exact Option.some_ne_none _)
          obtain ⟨f', rs, ef⟩ := RTL.snoc (H := upd H1 a (HO.ins C dx (putF f u fs))) (G := G1) hk.1
            (rl1.mono (Same.refl _) fun q hq => ⟨(rl1.own q hq).2, up q (fun z => nd.1 (z ▸ hq))⟩)
            (r1.mono (Same.refl _) fun q hq => ⟨(r1.own q hq).2, up q (fun z => naf (z ▸ hq))⟩)
          subst ef
          have rr : RT (upd H1 a (HO.ins C dx (putF f u fs))) G1 k (.ref a) (objD C (ns ++ [f]) (ds ++ [y])) (a :: (fp ++ f1)) := .ins hk.1 (by rw [z1]) upd_same g1 (by rw [z2]; exact rs)
          refine wd _ _ G1 (q.wr s1 eo ⟨_, _, e1, h1, List.mem_cons_self⟩ (fun ov' eo' => ?_) fun q hp => ?_)
          · rw [e1] at eo'
            cases eo'
            refine ⟨_, _, rfl, rr, ?_, fun q hq => ?_⟩
            · refine List.nodup_cons.mpr ⟨fun z => ?_, List.nodup_append.mpr ⟨nd.2, n1, fun x hx y hy z => ?_⟩⟩
              · rcases List.mem_append.mp z with z | z
                · exact nd.1 z
                · exact naf z
              · subst z
                exact (rl.own x hx).1 (p1 x hy)
            · rcases List.mem_cons.mp hq with rfl | hq
              · exact h3 _ List.mem_cons_self
              · rcases List.mem_append.mp hq with hq | hq
                · exact h3 _ (List.mem_cons_of_mem _ hq)
                · exact Same.free (Ok.st ‹_›).hh (p1 q hq)
          · have := ot_fp e1 rr hp
            rcases List.mem_cons.mp this with rfl | hp
            · exact .inl ⟨_, _, e1, h1, List.mem_cons_self⟩
            · rcases List.mem_append.mp hp with hp | hp
              · exact .inl ⟨_, _, e1, h1, List.mem_cons_of_mem _ hp⟩
              · exact .inr (p1 q hp)
        · exact w.elim
      · exact w.elim
    · exact w.elim⟩
end
end Ct

namespace Ct
open PySem PySem.Spec PyProof.Rows L2

def cutH (H : Hp) (fp : List Addr) : Hp := fun p => if p ∈ fp then none else H p
theorem cut_in {H : Hp} {fp : List Addr} {p : Addr} (h : p ∈ fp) : cutH H fp p = none := if_pos h
theorem cut_out {H : Hp} {fp : List Addr} {p : Addr} (h : p ∉ fp) : cutH H fp p = H p := if_neg h
theorem cut_or {H : Hp} {fp : List Addr} {p : Addr} (h : cutH H fp p = none) : p ∈ fp ∨ H p = none := by
  by_cases e : p ∈ fp
  · exact .inl e
  · rw [cut_out e] at h
    exact .inr h
inductive Ri where
  | ok (d : D) (ss : List D)
  | exc (e : Er) (ss : List D)
  | stuck
def WpI (r : Ri) (P : D → List D → Prop) (E : Er → List D → Prop) : Prop := match r with
  | .ok d ss => P d ss
  | .exc e ss => E e ss
  | .stuck => False
theorem WpI.imp {r : Ri} {P P' : D → List D → Prop} {E E' : Er → List D → Prop} (h : WpI r P E) (hp : ∀ d ss, P d ss → P' d ss) (he : ∀ e ss, E e ss → E' e ss) : WpI r P' E' := by
  cases r with
  | ok d ss => exact hp d ss h
  | exc e ss => exact he e ss h
  | stuck => exact h
inductive ArgR (H G : Hp) : List (Option Sh) → List V → List D → List Addr → Prop
  | nil : ArgR H G [] [] [] []
  | va {ms : List (Option Sh)} {v : V} {vs : List V} {d : D} {ds : List D} {f : List Addr} : Rp G v d → ArgR H G ms vs ds f → ArgR H G (none :: ms) (v :: vs) (d :: ds) f
  | io {ms : List (Option Sh)} {k : Sh} {v : V} {vs : List V} {d : D} {ds : List D} {f1 f2 : List Addr} : RT H G k v d f1 → ArgR H G ms vs ds f2 → ArgR H G (some k :: ms) (v :: vs) (d :: ds) (f1 ++ f2)
theorem ArgR.len {H G : Hp} {ms : List (Option Sh)} {vs : List V} {ds : List D} {f : List Addr} (h : ArgR H G ms vs ds f) : vs.length = ms.length ∧ ds.length = ms.length := by
  induction h with
  | nil => exact ⟨rfl, rfl⟩
  | va _ _ ih => exact ⟨by rw [List.length_cons, List.length_cons, ih.1], by rw [List.length_cons, List.length_cons, ih.2]⟩
  | io _ _ ih => exact ⟨by rw [List.length_cons, List.length_cons, ih.1], by rw [List.length_cons, List.length_cons, ih.2]⟩
theorem ArgR.own {H G : Hp} {ms : List (Option Sh)} {vs : List V} {ds : List D} {f : List Addr} (h : ArgR H G ms vs ds f) : ∀ p ∈ f, H p ≠ none ∧ G p = none := by
  induction h with
  | nil => intro p hp; cases hp
  | va _ _ ih => exact ih
  | io r _ ih =>
    intro p hp
    rcases List.mem_append.mp hp with hp | hp
    · exact r.own p hp
    · exact ih p hp
def SpI (ca : Nat → Addr) (cf : Nat → List Str) (k0 : Sh) (ms : List (Option Sh)) (f : List D → Ri) : Sp := fun vs H Q E => vs.length = ms.length ∧ ∃ G ds fp, Same G H ∧ ArgR H G ms vs ds fp ∧ fp.Nodup ∧
  WpI (f ds) (fun d ss => ∀ v H' G' f0 f1, Step (cutH H fp) G H' G' → RT H' G' k0 v d f0 → IoR H' G' ms vs ss f1 → (f0 ++ f1).Nodup → (∀ p ∈ f0 ++ f1, p ∈ fp ∨ H p = none) → Q v H')
    (fun er ss => ∀ c dd H' G' f1, Step (cutH H fp) G H' G' → ErR ca cf G' er c dd → IoR H' G' ms vs ss f1 → f1.Nodup → (∀ p ∈ f1, p ∈ fp ∨ H p = none) → E c dd H')
def slI : List (Option Sh) → List D → List Sl
  | none :: ms, d :: ds => .va d :: slI ms ds
  | some k :: ms, d :: ds => slW k d :: slI ms ds
  | _, _ => []
def startI (n : Nat) (ms : List (Option Sh)) (ds : List D) : Rho := slI ms ds ++ List.replicate (n - ds.length) .un
def ioOf (ms : List (Option Sh)) (vs : List V) : Nat → Option V := fun i => match ms[i]? with
  | some (some _) => vs[i]?
  | _ => none
theorem slI_len {H G : Hp} {ms : List (Option Sh)} {vs : List V} {ds : List D} {f : List Addr} (h : ArgR H G ms vs ds f) : (slI ms ds).length = ds.length := by
  induction h with
  | nil => rfl
  | va _ _ ih => exact congrArg (· + 1) ih
  | io _ _ ih => exact congrArg (· + 1) ih
theorem slI_at {S : Sx} {H G : Hp} {ms : List (Option Sh)} {vs : List V} {ds : List D} {f : List Addr} (h : ArgR H G ms vs ds f) : f.Nodup → ∀ (i : Nat) (s : Sl), (slI ms ds)[i]? = some s →
    ∃ v, vs[i]? = some v ∧ (∀ H0 : Hp, (∀ p ∈ f, H0 p = none) → SlR S H0 H G (some v) s) ∧ ∀ q, FP H G (some (some v)) q s → q ∈ f := by
  induction h with
  | nil => intro _ i s e; simp [slI] at e
  | @va ms v vs d ds f r _ ih =>
    intro nd i s e
    cases i with
    | zero =>
      cases Option.some.inj e
      exact ⟨v, rfl, fun H0 _ => ⟨v, rfl, r⟩, fun q z => z.elim⟩
    | succ i => exact ih nd i s e
  | @io ms k v vs d ds f1 f2 r _ ih =>
    intro nd i s e
    rw [List.nodup_append] at nd
    cases i with
    | zero =>
      cases Option.some.inj e
      refine ⟨v, rfl, fun H0 h0 => (slW_rel r nd.1 fun p hp => h0 p (List.mem_append_left _ hp)).1, fun q z => List.mem_append_left _ ?_⟩
      exact (slW_rel (S := S) (H0 := fun _ => none) r nd.1 fun _ _ => rfl).2 q z
    | succ i =>
      obtain ⟨u, a, b, c⟩ := ih nd.2.1 i s e
      exact ⟨u, a, fun H0 h0 => b H0 fun p hp => h0 p (List.mem_append_right _ hp), fun q z => List.mem_append_right _ (c q z)⟩
theorem slI_sep {S : Sx} {H G : Hp} {ms : List (Option Sh)} {vs : List V} {ds : List D} {f : List Addr} (h : ArgR H G ms vs ds f) : f.Nodup → ∀ (i j : Nat) (a b : Sl) (v u : V) (q : Addr), i ≠ j → (slI ms ds)[i]? = some a → (slI ms ds)[j]? = some b → vs[i]? = some v → vs[j]? = some u →
    FP H G (some (some v)) q a → FP H G (some (some u)) q b → False := by
  induction h with
  | nil => intro _ i j a b v u q _ e; simp [slI] at e
  | @va ms v0 vs d ds f r _ ih =>
    intro nd i j a b v u q ne ea eb ev eu fa fb
    cases i with
    | zero =>
      cases Option.some.inj ea
      exact fa.elim
    | succ i =>
      cases j with
      | zero =>
        cases Option.some.inj eb
        exact fb.elim
      | succ j => exact ih nd i j a b v u q (fun z => ne (by rw [z])) ea eb ev eu fa fb
  | @io ms k v0 vs d ds f1 f2 r rest ih =>
    intro nd i j a b v u q ne ea eb ev eu fa fb
    rw [List.nodup_append] at nd
    have h1 : ∀ q, FP H G (some (some v0)) q (slW k d) → q ∈ f1 := (slW_rel (S := S) (H0 := fun _ => none) r nd.1 fun _ _ => rfl).2
    cases i with
    | zero =>
      cases Option.some.inj ea
      cases Option.some.inj ev
      cases j with
      | zero => exact ne rfl
      | succ j =>
        obtain ⟨u', e1, _, c⟩ := slI_at (S := S) rest nd.2.1 j b eb
        have eu : vs[j]? = some u := eu
        rw [eu] at e1
        cases e1
        exact nd.2.2 q (h1 q fa) q (c q fb) rfl
    | succ i =>
      cases j with
      | zero =>
        cases Option.some.inj eb
        cases Option.some.inj eu
        obtain ⟨u', e1, _, c⟩ := slI_at (S := S) rest nd.2.1 i a ea
        have ev : vs[i]? = some v := ev
        rw [ev] at e1
        cases e1
        exact nd.2.2 q (h1 q fb) q (c q fa) rfl
      | succ j => exact ih nd.2.1 i j a b v u q (fun z => ne (by rw [z])) ea eb ev eu fa fb
theorem cut_same {G H : Hp} {fp : List Addr} : Same (cutH H fp) H := fun a u e => by
  by_cases z : a ∈ fp
  · rw [cut_in z] at e
    cases e
  · rw [cut_out z] at e
    exact e
theorem start_okI {S : Sx} {H G : Hp} {ms : List (Option Sh)} {vs : List V} {ds : List D} {fp : List Addr} {N : List Str} (s : Same G H) (r : ArgR H G ms vs ds fp) (nd : fp.Nodup) (hio : S.io = ioOf ms vs) : Ok S (cutH H fp) G (L2.start N vs) H G (startI N.length ms ds) := by
  obtain ⟨l1, l2⟩ := r.len
  have l3 := slI_len r
  have getL : ∀ {i : Nat} {x : Sl}, (startI N.length ms ds)[i]? = some x → isOwn x = true → (slI ms ds)[i]? = some x := fun {i x} e o => by
    unfold startI at e
    by_cases h : i < (slI ms ds).length
    · rw [List.getElem?_append_left h] at e
      exact e
    · rw [List.getElem?_append_right (by omega)] at e
      have := List.mem_of_getElem? e
      rw [(List.mem_replicate.mp this).2] at o
      cases o
  have getS : ∀ {i : Nat} {v : V}, vs[i]? = some v → (L2.start N vs)[i]? = some (some v) := fun {i v} e => by
    unfold L2.start
    have h := (List.getElem?_eq_some_iff.mp e).1
    rw [List.getElem?_append_left (by rw [List.length_map]; exact h), List.getElem?_map, e]
    rfl
  refine ⟨⟨cut_same (G := G), Same.refl _, s, fun _ g _ => g⟩, ?_, fun i t e => ?_, fun i j a b p ne ea eb fa fb => ?_, fun i v t e1 e2 e3 => ?_⟩
  · unfold L2.start startI
    rw [List.length_append, List.length_append, List.length_map, List.length_replicate, List.length_replicate, l3, l1, l2]
  · by_cases h : i < (slI ms ds).length
    · have e' := e
      unfold startI at e'
      rw [List.getElem?_append_left h] at e'
      obtain ⟨v, a, b, c⟩ := slI_at (S := S) r nd i t e'
      exact ⟨_, getS a, b _ fun p hp => cut_in hp⟩
    · unfold startI at e
      rw [List.getElem?_append_right (by omega)] at e
      have z := (List.getElem?_eq_some_iff.mp e).1
      rw [List.length_replicate] at z
      have := List.mem_of_getElem? e
      rw [(List.mem_replicate.mp this).2]
      refine ⟨none, ?_, trivial⟩
      unfold L2.start
      rw [List.getElem?_append_right (by rw [List.length_map]; omega), List.getElem?_replicate, if_pos (by rw [List.length_map]; omega)]
  · have a1 := getL ea fa.own
    have b1 := getL eb fb.own
    obtain ⟨v, ev, _, _⟩ := slI_at (S := S) r nd i a a1
    obtain ⟨u, eu, _, _⟩ := slI_at (S := S) r nd j b b1
    rw [getS ev] at fa
    rw [getS eu] at fb
    exact slI_sep (S := S) r nd i j a b v u p ne a1 b1 ev eu fa fb
  · rw [hio] at e1
    unfold ioOf at e1
    split at e1
    · exact getS e1
    · cases e1

def ioD (k : Sh) : Option Sl → Option D
  | some (.ow ds) => if k = .r .g then some (.list ds) else none
  | some (.ot k' d) => if k' = k then some d else none
  | _ => none
def stAt : Nat → List (Option Sh) → Rho → Option (List D)
  | _, [], _ => some []
  | n, none :: ms, ρ => stAt (n + 1) ms ρ
  | n, some k :: ms, ρ => match ioD k ρ[n]? with
    | some d => (stAt (n + 1) ms ρ).map (d :: ·)
    | none => none
theorem io_rt {S : Sx} {H0 H G : Hp} {k : Sh} {s : Sl} {d : D} {v : V} (h : ioD k (some s) = some d) (r : SlR S H0 H G (some v) s) : isOwn s = true ∧ ∃ f, RT H G k v d f ∧ f.Nodup ∧ (∀ p ∈ f, H0 p = none) ∧ ∀ p ∈ f, FP H G (some (some v)) p s := by
  unfold ioD at h
  split at h
  · rename_i ds e
    cases e
    split at h
    · rename_i hk
      subst hk
      cases h
      obtain ⟨p, vs, e1, h1, h2, h3, h4⟩ := r
      cases e1
      refine ⟨rfl, [p], .lst rfl h1 h2 (.good h4), nd1, fun q hq => by rw [List.mem_singleton.mp hq]; exact h3, fun q hq => by rw [List.mem_singleton.mp hq]; rfl⟩
    · cases h
  · rename_i k' d' e
    cases e
    split at h
    · rename_i hk
      subst hk
      cases h
      obtain ⟨v', fp, e1, h1, h2, h3⟩ := r
      cases e1
      exact ⟨rfl, fp, h1, h2, h3, fun q hq => ⟨_, fp, rfl, h1, hq⟩⟩
    · cases h
  · cases h
theorem ioD_own {k : Sh} {s : Sl} {d : D} (h : ioD k (some s) = some d) : isOwn s = true := by
  cases s with
  | ow _ => rfl
  | ot _ _ => rfl
  | _ => cases h
theorem Ok.stAt {S : Sx} {H0 G0 H G : Hp} {σ : St} {ρ : Rho} (q : Ok S H0 G0 σ H G ρ) : ∀ (ms : List (Option Sh)) (n : Nat) (vs : List V) (ss : List D), ms.length = vs.length → (∀ j k v, ms[j]? = some (some k) → vs[j]? = some v → S.io (n + j) = some v) → Ct.stAt n ms ρ = some ss →
    ∃ fp, IoR H G ms vs ss fp ∧ fp.Nodup ∧ (∀ p ∈ fp, H0 p = none) ∧ ∀ p ∈ fp, ∃ j s, n ≤ j ∧ ρ[j]? = some s ∧ FP H G σ[j]? p s
  | [], n, [], ss, _, _, h => by
    cases h
    exact ⟨[], .nil, List.nodup_nil, fun p z => absurd z (List.not_mem_nil), fun p z => absurd z (List.not_mem_nil)⟩
  | none :: ms, n, v :: vs, ss, hl, hio, h => by
    obtain ⟨fp, a, b, c, d⟩ := q.stAt ms (n + 1) vs ss (by simpa using hl) (fun j k u e1 e2 => by
      have := hio (j + 1) k u e1 e2
      rw [show n + (j + 1) = n + 1 + j by omega] at this
      exact this) h
    exact ⟨fp, .va a, b, c, fun p hp => by
      obtain ⟨j, s, x, y⟩ := d p hp
      exact ⟨j, s, by omega, y⟩⟩
  | some k :: ms, n, v :: vs, ss, hl, hio, h => by
    have h : (match ioD k ρ[n]? with | some d => (Ct.stAt (n + 1) ms ρ).map (d :: ·) | none => none) = some ss := h
    cases e : ρ[n]? with
    | none => rw [e] at h; cases h
    | some s =>
      rw [e] at h
      cases ed : ioD k (some s) with
      | none => rw [ed] at h; cases h
      | some d =>
        rw [ed] at h
        have h : (Ct.stAt (n + 1) ms ρ).map (d :: ·) = some ss := h
        cases er : Ct.stAt (n + 1) ms ρ with
        | none => rw [er] at h; cases h
        | some ss' =>
          rw [er] at h
          cases h
          have e1 : σ[n]? = some (some v) := q.pin n v s (hio 0 k v rfl rfl) e (ioD_own ed)
          obtain ⟨ov, e2, r⟩ := q.sl n s e
          rw [e1] at e2
          cases e2
          obtain ⟨_, f, r1, r2, r3, r4⟩ := io_rt ed r
          obtain ⟨fp, a, b, c, d'⟩ := q.stAt ms (n + 1) vs ss' (by simpa using hl) (fun j k u e1 e2 => by
            have := hio (j + 1) k u e1 e2
            rw [show n + (j + 1) = n + 1 + j by omega] at this
            exact this) er
          refine ⟨f ++ fp, .io r1 a, List.nodup_append.mpr ⟨r2, b, fun x hx y hy z => ?_⟩, fun p hp => ?_, fun p hp => ?_⟩
          · subst z
            obtain ⟨j, t, g1, g2, g3⟩ := d' x hy
            exact q.sep n j s t x (by omega) e g2 (by rw [e1]; exact r4 x hx) g3
          · rcases List.mem_append.mp hp with z | z
            · exact r3 p z
            · exact c p z
          · rcases List.mem_append.mp hp with z | z
            · exact ⟨n, s, Nat.le_refl _, e, by rw [e1]; exact r4 p z⟩
            · obtain ⟨j, t, g1, g2⟩ := d' p z
              exact ⟨j, t, by omega, g2⟩
  | [], _, _ :: _, _, h, _, _ => by simp at h
  | _ :: _, _, [], _, h, _, _ => by simp at h
def Out.resI (ms : List (Option Sh)) : Out → Ri
  | .nx ρ => match Ct.stAt 0 ms ρ with
    | some ss => .ok .none ss
    | none => .stuck
  | .ret (.tuple (d :: ss)) => .ok d ss
  | .exc e ρ => match Ct.stAt 0 ms ρ with
    | some ss => .exc e ss
    | none => .stuck
  | _ => .stuck
def runI (ms : List (Option Sh)) (n : Nat) (g : Rho → Out) (ds : List D) : Ri := if ds.length = ms.length then (g (startI n ms ds)).resI ms else .stuck
theorem runI_len {ms : List (Option Sh)} {n : Nat} {g : Rho → Out} (ds : List D) (h : ds.length ≠ ms.length) : runI ms n g ds = .stuck := if_neg h
theorem runI_eq {ms : List (Option Sh)} {n : Nat} {g : Rho → Out} {ds : List D} (h : ds.length = ms.length) : runI ms n g ds = (g (startI n ms ds)).resI ms := if_pos h
theorem fn_bodyI {P : Program} {w : World} {K : PySem.W.Frag} {mg : Str → Option Value} {base : Heap} {x qual : Str} {st : Stmt} {a : Addr} {fd : FuncData} {N ps : List Str} {k : Nat} {ca : Nat → Addr} {cf : Nat → List Str} {k0 : Sh} {ms : List (Option Sh)} {g : Rho → Out}
    (F : Fun K x qual st a fd) (Sc : FnScope N ps (defScope st)) (hm : ms.length = ps.length)
    (hb : ∀ (vs : List V) (cdv : Value) (A : Around) (outer : List PySem.Env) (s : Shared) (H : Hp) (E : XK), Room k (A.deeper (envOfC qual (defScope st) s.heap.objs.size a cdv)) →
      XSs ⟨cxOf (L2.CX P w) P w K mg base N qual (defScope st) a cdv A outer s H E, fun cls d _ H => E cls d H, ca, cf, none, ioOf ms vs⟩ (.i k0 ms vs) (defBody st) g) :
    FnOk P w K mg base (L2.CX P w) (k + 1) a fd ps (SpI ca cf k0 ms (runI ms N.length g)) := by
  refine F.okX Sc (fun vs H Q E h => h.1.trans hm) (fun cdv A outer s H vs Q E hr h => ?_)
  obtain ⟨hl, G, ds, fp, sg, r, nd, w'⟩ := h
  obtain ⟨t, a1, a2⟩ := hb vs cdv A outer s H E hr
  refine ⟨t, a1, a2 (cutH H fp) G _ H G _ _ (start_okI sg r nd rfl) ?_⟩
  rw [runI_eq r.len.2] at w'
  have hio : ∀ j k v, ms[j]? = some (some k) → vs[j]? = some v → ioOf ms vs (0 + j) = some v := fun j k v e1 e2 => by
    rw [Nat.zero_add]
    unfold ioOf
    rw [e1]
    exact e2
  cases e : g (startI N.length ms ds) with
  | nx ρ =>
    rw [e] at w'
    intro σ' H' G' q
    unfold Out.resI at w'
    cases es : Ct.stAt 0 ms ρ with
    | none => simp only [es] at w'; exact w'.elim
    | some ss =>
      simp only [es] at w'
      obtain ⟨f1, b1, b2, b3, _⟩ := q.stAt ms 0 vs ss hl.symm hio es
      exact w' .non H' G' [] f1 q.st (.sc rfl .non) b1 b2 fun p hp => cut_or (b3 p hp)
  | ret d =>
    rw [e] at w'
    intro v H' G' s' r'
    obtain ⟨d0, ss, f0, f1, rfl, b1, b2, b3, b4⟩ := r'
    exact w' v H' G' f0 f1 s' b1 b2 b3 fun p hp => cut_or (b4 p hp)
  | exc er ρ =>
    rw [e] at w'
    intro c dd σ' H' G' q er'
    unfold Out.resI at w'
    cases es : Ct.stAt 0 ms ρ with
    | none => simp only [es] at w'; exact w'.elim
    | some ss =>
      simp only [es] at w'
      obtain ⟨f1, b1, b2, b3, _⟩ := q.stAt ms 0 vs ss hl.symm hio es
      exact w' c dd H' G' f1 q.st er' b1 b2 fun p hp => cut_or (b3 p hp)
  | brk ρ => rw [e] at w'; exact w'.elim
  | ct ρ => rw [e] at w'; exact w'.elim
  | stuck => rw [e] at w'; exact w'.elim

end Ct

namespace Ct
open PySem PySem.Spec PyProof.Rows L2

section
variable {X : Cx} {CX : CXT} {k : Nat} {f C : Addr} {fd : FuncData} {ps : List Str} {sp : Sp} {dvs : List V} {ds : List Value} {E : L2.St → XK} {x m y : Str} {p pos apos kpos : Pos} {e o e2 : Expr} {es : List Expr} {ta te : TE} {t : TA}
def tMethg (C : Addr) (m : Str) (sp : Sp) (dvs : List V) (E : L2.St → XK) (ta : TE) (t : TA) : TE := fun σ H Q => ta σ H fun x H1 => ∃ a dx fs, x = .ref a ∧ H1 a = some (.ins C dx fs) ∧ fs.lookup m = none ∧ t σ H1 fun vs H2 => sp (x :: (vs ++ dvs)) H2 Q (E σ)
theorem run_gd {pins : List (Addr × Obj)} {σ : L2.St} {H : Hp} {s : Shared} {Q : VK} {us : List Value} {vs : List V} (F : FnOk X.prog X.w X.K X.mg X.base CX k f fd ps sp) (hr : Room k X.A) (hb : Binds X.K fd ps ds) (hd : Vals dvs ds) (hx : PassesAt CX X σ (E σ))
    (I : Inv X pins σ H s) (r : Vals vs us) (h : sp (vs ++ dvs) H Q (E σ)) : wpAny (model X.prog X.w) X.A (call (.ref f) us) (EP X pins σ Q) X.xe s := by
  have r2 : Vals (vs ++ dvs) (us ++ ds) := r.append hd
  have hl : (us ++ ds).length = ps.length := by rw [← r2.length]; exact F.len _ _ _ _ h
  exact run_g (args := ⟨us, []⟩) F hr (hb s us I.kIn hl) hx I r2 h
theorem pe_mg {pl : Sem Bool} (he : PE X o ta) (c : Cls X.K C) (hm : Meth X.K C m f) (F : FnOk X.prog X.w X.K X.mg X.base CX k f fd ps sp) (hr : Room k X.A) (hb : Binds X.K fd ps ds) (hd : Vals dvs ds) (hx : ∀ σ, PassesAt CX X σ (E σ)) (ha : PA X (e :: es) t)
    (hst : starEach (e :: es) X.env = (false, eval e X.env) :: starEach es X.env := by rfl) (hpl : (backTo pos (starEach es X.env)).any (·.1) = false := by rfl)
    (ht : eval (.Call (.Attribute o m apos) (e :: es) [] pos) X.env = (do
      let ov ← eval o X.env
      standAt apos.atName
      let (f, first) ← holding [ov] (getMethod ov m pl)
      callWith pos f first (backTo pos (starEach (e :: es) X.env)) (backToKw pos (keywordEach [] X.env))) := by rfl) :
    PE X (.Call (.Attribute o m apos) (e :: es) [] pos) (tMethg C m sp dvs E ta t) := by
  refine ⟨fun pins s σ H Q I h => ?_⟩
  refine PySem.W.methodCall_KW (pl := pl) (thn (he.run pins s σ H _ I h) fun u s1 ⟨x, H1, I1, rx, a, dx, fs, ex, ea, l, q⟩ => ?_) ht
  subst ex
  obtain rfl : u = Value.ref a := rx
  refine getmeth_ok I1 ea c hm l ?_
  refine PySem.W.callWith_K (first := [.ref a]) (h₀ := X.base) I.ok.mod.kin hm.kp (thn (ha.run pos pins s1 σ H1 _ I1 q) fun us s2 ⟨vs, H2, I2, r, q2⟩ => ⟨I2.kIn, ?_⟩) hst hpl
  exact run_gd (us := .ref a :: us) (vs := .ref a :: vs) F hr hb hd (hx σ) I2 (.cons rfl r) q2
theorem run_mkg {pins : List (Addr × Obj)} {σ : L2.St} {H : Hp} {s : Shared} {Q : VK} {us us2 : List Value} {kw : List (Str × Value)} {vs : List V} (M : Mk X.K C f) (F : FnOk X.prog X.w X.K X.mg X.base CX k f fd ps sp) (hr : Room (k + 1) X.A)
    (hb : ∀ (s : Shared) (x : Value), X.K.In s.heap → (x :: us2).length = ps.length → BindsTo s fd ⟨x :: us, kw⟩ (ps.zip (x :: us2))) (hx : PassesAt CX X σ (E σ)) (I : Inv X pins σ H s) (r : Vals vs us2)
    (h : ∀ x dx, H x = none → H dx = none → dx ≠ x → sp (.ref x :: vs) (upd (upd H dx (.own x)) x (.ins C dx [])) (fun v H2 => v = .non ∧ Q (.ref x) H2) (E σ)) :
    wpAny (model X.prog X.w) X.A (call (.ref C) us kw) (EP X pins σ Q) X.xe s := by
  have hq := h (s.heap.objs.size + 1) s.heap.objs.size (I.hok.fresh (Nat.le_succ _)) (I.hok.fresh (Nat.le_refl _)) (Nat.ne_of_lt (Nat.lt_succ_self _))
  have I2 := Inv.made (C := C) I
  have r2 : Vals (V.ref (s.heap.objs.size + 1) :: vs) (Value.ref (s.heap.objs.size + 1) :: us2) := .cons rfl r
  have hl : (Value.ref (s.heap.objs.size + 1) :: us2).length = ps.length := by
    have e := r2.length
    rw [F.len _ _ _ _ hq] at e
    exact e.symm
  refine wpAny_call (make_map (f := f) I.kIn M.makes M.init (beq_iff_eq.mp M.fn) (codeAny_mono (F.run _ X.stack _ _ ⟨Value.ref (s.heap.objs.size + 1) :: us, kw⟩ (Value.ref (s.heap.objs.size + 1) :: us2) _ _ (E σ) (hr.make C us kw)
    (I2.env0.make C us kw) (hb _ _ I2.kIn hl) r2 hq) fun r s' hq' => ?_))
  cases r with
  | error e => exact hx pins _ _ e s' I2 hq'
  | ok fl =>
    cases fl with
    | ret u =>
      obtain ⟨v, H', I3, rv, ev, q3⟩ := I2.after hq'
      subst ev
      exact ⟨rv, ⟨V.ref (s.heap.objs.size + 1), H', I3, rfl, q3⟩⟩
    | next => exact False.elim hq'
    | brk => exact False.elim hq'
    | cont => exact False.elim hq'
def mkSp (C : Addr) (sp : Sp) (vs : List V) (H : Hp) (Q : VK) (E : XK) : Prop := ∀ x dx, H x = none → H dx = none → dx ≠ x → sp (.ref x :: vs) (upd (upd H dx (.own x)) x (.ins C dx [])) (fun v H2 => v = .non ∧ Q (.ref x) H2) E
theorem pe_mkg (M : Mk X.K C f) (F : FnOk X.prog X.w X.K X.mg X.base CX k f fd ps sp) (hr : Room (k + 1) X.A) (hg : Gl X x) (hm : X.mg x = some (.ref C)) (hb : Binds X.K fd ps []) (hx : ∀ σ, PassesAt CX X σ (E σ))
    (ha : PA X (e :: es) t) (hdb : (x == ("__debug__" : Str)) = false) (he : starEach (e :: es) X.env = (false, eval e X.env) :: starEach es X.env) (hpl : (backTo pos (starEach es X.env)).any (·.1) = false) :
    PE X (.Call (.Name x p) (e :: es) [] pos) (fun σ H Q => t σ H fun vs H1 => mkSp C sp vs H1 Q (E σ)) := by
  refine ⟨fun pins s σ H Q I h => ?_⟩
  refine wpAny_Call_Name_kw (ld_glob I hg hm ?_ hdb)
  refine PySem.W.callWith_K (h₀ := X.base) I.ok.mod.kin M.kp (thn (ha.run pos pins s σ H _ I h) fun us s1 ⟨vs, H1, I1, r, q⟩ => ⟨I1.kIn, ?_⟩) he hpl
  exact run_mkg (us2 := us) M F hr (fun s u X hl => by have := hb s (u :: us) X (by rw [List.append_nil]; exact hl); rw [List.append_nil] at this; exact this) (hx σ) I1 r q
def tCallOg (X : Cx) (C : Addr) (sp : Sp) (E : L2.St → XK) (tf : TE) (t : TA) : TE := fun σ H Q => tf σ H fun y H1 => ∃ a, y = V.ref a ∧ t σ H1 fun vs H2 => (∃ dx fs, H2 a = some (.ins C dx fs)) ∧ sp (V.ref a :: vs) H2 Q (E σ)
theorem pe_callOg {g : Addr} {fe : Expr} {tf : TE} (hf : PE X fe tf) (c : StX.CallO X.K C g) (F : FnOk X.prog X.w X.K X.mg X.base CX k g fd ps sp) (hr : Room k X.A) (hb : Binds X.K fd ps []) (hx : ∀ σ, PassesAt CX X σ (E σ)) (ha : PA X (e :: es) t)
    (ht : eval (.Call fe (e :: es) [] pos) X.env = (do callWith pos (← eval fe X.env) [] (backTo pos (starEach (e :: es) X.env)) (backToKw pos (keywordEach [] X.env))) := by rfl)
    (he : starEach (e :: es) X.env = (false, eval e X.env) :: starEach es X.env := by rfl) (hpl : (backTo pos (starEach es X.env)).any (·.1) = false := by rfl) : PE X (.Call fe (e :: es) [] pos) (tCallOg X C sp E tf t) := by
  refine ⟨fun pins s σ H Q I h => ?_⟩
  refine Call_ (thn (hf.run pins s σ H _ I h) fun u s1 ⟨y, H1, I1, ry, a, ey, q⟩ => ?_) ht
  subst ey
  obtain rfl : u = Value.ref a := ry
  refine StX.callO_with (thn (ha.run pos pins s1 σ H1 _ I1 q) fun us s2 ⟨vs, H2, I2, r, hi, q2⟩ => ?_) he hpl
  obtain ⟨ox, od, J, hd⟩ := StX.insC_at I2 (.inr hi)
  refine ⟨⟨C, ox, od, J, hd⟩, ?_⟩
  have r2 : Vals (V.ref a :: vs) (Value.ref a :: us) := .cons rfl r
  have hl : (Value.ref a :: us).length = ps.length := by rw [← r2.length]; exact F.len _ _ _ _ q2
  have b := hb s2 (.ref a :: us) I2.kIn (by rw [List.append_nil]; exact hl)
  rw [List.append_nil] at b
  refine wpAny_call (PySem.W.kco_code I2.kIn J hd c.at_ c.fn c.fi ?_)
  refine codeAny_mono (F.run X.A X.stack s2 H2 ⟨.ref a :: us, []⟩ _ _ Q (E σ) hr I2.env0 b r2 q2) fun r s' hq => ?_
  cases r with
  | error e => exact hx σ pins H2 s2 e s' I2 hq
  | ok fl =>
    cases fl with
    | ret u => exact I2.after hq
    | next => exact False.elim hq
    | brk => exact False.elim hq
    | cont => exact False.elim hq
end

def fMake (C : Addr) (f : List D → Ri) (g : Rho → Rs (List D)) : Rho → Rs D := fun ρ => (g ρ).bind fun ds => match f (objD C [] [] :: ds) with
  | .ok .none [s] => .ok s
  | .exc e _ => .exc e
  | _ => .stuck
theorem ArgR.good {H G : Hp} : ∀ {vs : List V} {ds : List D}, RpL G vs ds → ArgR H G (List.replicate vs.length none) vs ds []
  | _, _, .nil => .nil
  | _, _, .cons a b => .va a (ArgR.good b)
theorem IoR.good {H G : Hp} : ∀ {n : Nat} {vs : List V} {ss : List D} {f : List Addr}, IoR H G (List.replicate n none) vs ss f → ss = [] ∧ f = []
  | 0, _, _, _, h => by cases h; exact ⟨rfl, rfl⟩
  | n + 1, _, _, _, h => by
    have h : IoR _ _ (none :: List.replicate n none) _ _ _ := h
    cases h with
    | va h => exact IoR.good h
theorem mk_sp {S : Sx} {C : Addr} {sh : Sh} {n : Nat} {f : List D → Ri} {H G H1 G1 : Hp} {σ : St} {Q : VK} {vs : List V} {ds : List D} (hk : sh.node = true) (s1 : Step H G H1 G1) (r : RpL G1 vs ds) (hl : vs.length = n)
    (w : Wp (match f (objD C [] [] :: ds) with | .ok .none [s] => Rs.ok s | .exc e _ => .exc e | _ => .stuck) (fun d => ∀ v H' G', Step H G H' G' → RK (.w sh) H H' G' v d → Q v H') (ExW S σ H G)) :
    mkSp C (SpI S.ca S.cf .g (some sh :: List.replicate n none) f) vs H1 Q (WE S.W σ) := by
  intro x dx hx hdx ne
  subst hl
  have hx2 : upd H1 dx (HO.own x) x = none := by rw [upd_ne (Ne.symm ne)]; exact hx
  have same1 : Same H1 (upd (upd H1 dx (.own x)) x (.ins C dx [])) := (same_new hdx).trans (same_new hx2)
  have r0 : RT (upd (upd H1 dx (.own x)) x (.ins C dx [])) G1 sh (.ref x) (objD C [] []) [x] := .ins (fs := []) hk rfl upd_same (Same.free s1.sub hx) .nil
  have back : ∀ {H' G' : Hp}, Step (cutH (upd (upd H1 dx (.own x)) x (.ins C dx [])) [x]) G1 H' G' → Step H1 G1 H' G' := fun {H' G'} t => by
    have out : ∀ a, H1 a ≠ none → a ∉ [x] := fun a ha z => by rw [List.mem_singleton.mp z] at ha; exact ha hx
    refine ⟨fun a u e => ?_, t.gg, t.sub, fun a g ha => ?_⟩
    · refine t.hh a u ?_
      rw [cut_out (out a (by rw [e]; exact Option.some_ne_none _))]
      exact same1 a u e
    · refine t.sep a g ?_
      rw [cut_out (out a ha)]
      cases e : H1 a with
      | none => exact absurd e ha
      | some u => rw [same1 a u e]; exact Option.some_ne_none _
  have fr : ∀ {p : Addr}, (p ∈ [x] ∨ upd (upd H1 dx (.own x)) x (.ins C dx []) p = none) → H p = none := fun {p} h => by
    rcases h with h | h
    · rw [List.mem_singleton.mp h]
      exact Same.free s1.hh hx
    · cases e : H1 p with
      | none => exact Same.free s1.hh e
      | some u => rw [same1 p u e] at h; cases h
  refine ⟨by rw [List.length_cons, List.length_cons, List.length_replicate], G1, objD C [] [] :: ds, [x] ++ [], fun a u e => same1 a u (s1.sub a u e), .io r0 (ArgR.good r), nd1, ?_⟩
  cases e : f (objD C [] [] :: ds) with
  | stuck => rw [e] at w; exact w.elim
  | exc er ss =>
    rw [e] at w
    exact fun c dd H' G' f1 t er' _ _ _ => w c dd H' G' (s1.trans (back t)) er'
  | ok d ss =>
    rw [e] at w
    cases d with
    | none =>
      match ss, w with
      | [s0], w =>
        intro v H' G' f0 f1 t r1 r2 nd fp
        refine ⟨Rp.non_inv r1.to_g, ?_⟩
        cases r2 with
        | io r3 r4 =>
          obtain ⟨_, rfl⟩ := IoR.good r4
          rw [List.append_nil] at nd fp
          exact w _ H' G' (s1.trans (back t)) ⟨_, r3, (List.nodup_append.mp nd).2.1, fun p hp => fr (fp p (List.mem_append_right _ hp))⟩
    | _ => exact w.elim
def fMethG (C : Addr) (ns : List Str) (f : List D → Rs D) (fo : Rho → Rs D) (g : Rho → Rs (List D)) : Rho → Rs D := fun ρ => (fo ρ).bind fun d0 => match objS C ns d0 with
  | some _ => (g ρ).bind fun ds => f (d0 :: ds)
  | none => .stuck
section
variable {S : Sx} {k : Nat} {a C : Addr} {fd : FuncData} {ps ns : List Str} {kd : Kd} {sh : Sh} {f : List D → Rs D} {fi : List D → Ri} {x m y : Str} {p pos apos kpos : Pos} {e e2 o : Expr} {es : List Expr} {g : Rho → Rs (List D)} {h fo : Rho → Rs D} {n : Nat}
theorem xmake (M : Mk S.X.K C a) (F : FnOk S.X.prog S.X.w S.X.K S.X.mg S.X.base (L2.CX S.X.prog S.X.w) k a fd ps (SpI S.ca S.cf .g (some sh :: List.replicate n none) fi)) (hk : sh.node = true) (hm : S.X.mg x = some (.ref C)) (hb : Binds S.X.K fd ps []) (hr : Room (k + 1) S.X.A) (tk : Takes S.X S.W)
    (hn : ∀ ds, fi ds ≠ .stuck → ds.length = n + 1) (ha : XA S .e (e :: es) g) (hg : Gl S.X x := by rfl) (hdb : (x == ("__debug__" : Str)) = false := by decide) (he : starEach (e :: es) S.X.env = (false, eval e S.X.env) :: starEach es S.X.env := by rfl) (hpl : (backTo pos (starEach es S.X.env)).any (·.1) = false := by rfl) :
    XX S (.w sh) (.Call (.Name x p) (e :: es) [] pos) (fMake C fi g) :=
  let ⟨t, a1, a2⟩ := ha
  ⟨_, pe_mkg (E := WE S.W) M F hr hg hm hb (fun σ => passAt tk σ) a1 hdb he hpl, fun H0 G0 σ H G ρ Q q w => by
    refine a2 H0 G0 σ H G ρ _ q (Wp.imp (Wp.bind w) (fun ds wd vs H1 G1 s1 r1 => ?_) fun _ z => z)
    refine mk_sp hk s1 r1 ?_ wd
    rw [RpL.length r1]
    have := hn (objD C [] [] :: ds) (fun z => by rw [z] at wd; exact wd)
    simpa using this⟩
theorem xmethG {pl : Sem Bool} (O : ClO S.X.K C ns) (hm : Meth S.X.K C m a) (F : FnOk S.X.prog S.X.w S.X.K S.X.mg S.X.base (L2.CX S.X.prog S.X.w) k a fd ps (SpF S.ca S.cf kd ps.length f)) (hmn : m ∉ ns) (hb : Binds S.X.K fd ps []) (hr : Room k S.X.A) (tk : Takes S.X S.W) (hlen : ∀ ds, ds.length ≠ ps.length → f ds = .stuck)
    (ho : XX S .e o fo) (ha : XA S .e (e :: es) g) (hst : starEach (e :: es) S.X.env = (false, eval e S.X.env) :: starEach es S.X.env := by rfl) (hpl : (backTo pos (starEach es S.X.env)).any (·.1) = false := by rfl)
    (ht : eval (.Call (.Attribute o m apos) (e :: es) [] pos) S.X.env = (do
      let ov ← eval o S.X.env
      standAt apos.atName
      let (f, first) ← holding [ov] (getMethod ov m pl)
      callWith pos f first (backTo pos (starEach (e :: es) S.X.env)) (backToKw pos (keywordEach [] S.X.env))) := by rfl) :
    XX S kd (.Call (.Attribute o m apos) (e :: es) [] pos) (fMethG C ns f fo g) :=
  let ⟨_, b1, b2⟩ := ho; let ⟨_, a1, a2⟩ := ha
  ⟨_, pe_mg (pl := pl) (E := WE S.W) b1 O.cl hm F hr hb .nil (fun σ => passAt tk σ) a1 hst hpl ht, fun H0 G0 σ H G ρ Q q w => by
    refine b2 H0 G0 σ H G ρ _ q (Wp.imp (Wp.bind w) (fun d wd v H1 G1 s1 r1 => ?_) fun _ z => z)
    split at wd
    · rename_i ds0 eo
      obtain ⟨b, dx, fs, rfl, hb', en, _⟩ := Rp.obj r1 eo
      refine ⟨b, dx, fs, rfl, s1.sub _ _ hb', look_no en hmn, ?_⟩
      refine a2 H0 G0 σ H1 G1 ρ _ (q.step s1) (Wp.imp (Wp.bind wd) (fun ds wd vs H2 G2 s2 r2 => ?_) fun _ z => z.step s1)
      rw [List.append_nil]
      have r3 : RpL G2 (.ref b :: vs) (d :: ds) := .cons (Rp.mono s2.gg r1) r2
      have hl : (d :: ds).length = ps.length := by
        by_cases z : (d :: ds).length = ps.length
        · exact z
        · rw [hlen _ z] at wd
          exact wd.elim
      exact sp_call (s1.trans s2) r3 (r3.length.trans hl) wd
    · exact wd.elim⟩
theorem xcallOG (O : ClO S.X.K C ns) (c : StX.CallO S.X.K C a) (F : FnOk S.X.prog S.X.w S.X.K S.X.mg S.X.base (L2.CX S.X.prog S.X.w) k a fd ps (SpF S.ca S.cf kd ps.length f)) (hb : Binds S.X.K fd ps []) (hr : Room k S.X.A) (tk : Takes S.X S.W) (hlen : ∀ ds, ds.length ≠ ps.length → f ds = .stuck)
    (ho : XX S .e o fo) (ha : XA S .e (e :: es) g)
    (ht : eval (.Call o (e :: es) [] pos) S.X.env = (do callWith pos (← eval o S.X.env) [] (backTo pos (starEach (e :: es) S.X.env)) (backToKw pos (keywordEach [] S.X.env))) := by rfl)
    (he : starEach (e :: es) S.X.env = (false, eval e S.X.env) :: starEach es S.X.env := by rfl) (hpl : (backTo pos (starEach es S.X.env)).any (·.1) = false := by rfl) :
    XX S kd (.Call o (e :: es) [] pos) (fMethG C ns f fo g) :=
  let ⟨_, b1, b2⟩ := ho; let ⟨_, a1, a2⟩ := ha
  ⟨_, pe_callOg (E := WE S.W) b1 c F hr hb (fun σ => passAt tk σ) a1 ht he hpl, fun H0 G0 σ H G ρ Q q w => by
    refine b2 H0 G0 σ H G ρ _ q (Wp.imp (Wp.bind w) (fun d wd v H1 G1 s1 r1 => ?_) fun _ z => z)
    split at wd
    · rename_i ds0 eo
      obtain ⟨b, dx, fs, rfl, hb', en, _⟩ := Rp.obj r1 eo
      refine ⟨b, rfl, ?_⟩
      refine a2 H0 G0 σ H1 G1 ρ _ (q.step s1) (Wp.imp (Wp.bind wd) (fun ds wd vs H2 G2 s2 r2 => ?_) fun _ z => z.step s1)
      have r3 : RpL G2 (.ref b :: vs) (d :: ds) := .cons (Rp.mono s2.gg r1) r2
      have hl : (d :: ds).length = ps.length := by
        by_cases z : (d :: ds).length = ps.length
        · exact z
        · rw [hlen _ z] at wd
          exact wd.elim
      exact ⟨⟨dx, fs, s2.sub _ _ (s2.gg _ _ hb')⟩, sp_call (s1.trans s2) r3 (r3.length.trans hl) wd⟩
    · exact wd.elim⟩
end
end Ct

namespace PySem
open Sem (wp)
theorem ct_next_end {prog : Program} {w : World} {A : Around} {E : Value → Shared → Prop} {s : Shared} {it l : Addr} {i : Nat} {items : Array Value} {Q : Option Value → Shared → Prop} (hh : A.handled = none)
    (hit : s.heap.IsListIter it l i) (hl : s.heap.IsList l items) (hx : items[i]? = none)
    (hQ : ∀ h', Heap.ExtBut it s.heap h' → (∃ u, h'.get? it = some u) → Q none { s with heap := h' }) : wpAny (model prog w) A (pyNext (.ref it)) Q E s := by
  obtain ⟨o, ho, hc, hd⟩ := id hit
  obtain ⟨ol, hol, _, nl, hdl⟩ := hl
  unfold pyNext
  refine wpAny_bind (wpAny_attempt (wpAny_callSpecial?_slot (name := Str.ofString "__next__") hit.typeIs slot_listiter_next
    (wpAny_call_entry slot_listiter_next hit.typeIs entry_listiter_next ?_ (args_listiter_next _))))
  show wpAny _ _ (field (.ref it) 0 >>= _) _ _ s
  refine wpAny_bind (wpAny_field ho hd (x := .ref l) rfl ?_)
  show wpAny _ _ (if (Value.ref l == Value.none) = true then _ else _) _ _ s
  rw [if_neg (show ¬ ((Value.ref l == Value.none) = true) from Bool.false_ne_true)]
  show wpAny _ _ (field (.ref it) 1 >>= _) _ _ s
  refine wpAny_bind (wpAny_field ho hd (x := .int i 0) rfl ?_)
  show wpAny _ _ (seqItems? (.ref l) >>= _) _ _ s
  refine wpAny_bind (wpAny_seqItems hol hdl ?_)
  simp only [Int.toNat_natCast, hx]
  refine wpAny_bind (wpAny_rule (wpAny_bind (wpAny_setField ho hd (by simp) ?_)))
  show wpAny _ _ (newExc (.type "StopIteration") [] >>= _) _ _ _
  refine wpAny_bind ?_
  simp only [newExc, newTuple]
  refine wpAny_bind (wpAny_newObj_type ?_ (by size_fits))
  refine wpAny_bind (m := firstArgMember _ _) (wpAny_of_eq (a := Value.none) (by first | rfl | (simp only [firstArgMember]; rfl)) ?_)
  refine wpAny_newObj_type ?_ (by size_fits)
  simp only [raiseNew]
  refine wpAny_bind (wpAny_handled ?_)
  rw [show A.in1.handled = none from hh]
  refine wpAny_bind (wpAny_pure (wpAny_throw ?_))
  refine wpAny_bind (wpAny_isInstance (T := "StopIteration") (b := true) ⟨_, Heap.get?_push_size _ rfl, rfl⟩ isSubtype_stop ?_)
  refine wpAny_pure (hQ _ (((Heap.SameBut.update ..).extBut.push _).push _) ⟨_, Heap.get?_push_of_some _ (Heap.get?_push_of_some _ (Heap.get?_update_self _ ho ?_))⟩)
  exact Obj.isFreed_of_fields (Obj.data_mapFields hd _)
end PySem
namespace Ct
open PySem PySem.Spec PyProof.Rows L2 ItX

def spIt (C : Addr) (f : Str) : Sp := fun vs H Q _ => ∃ a dx fs l zs, vs = [.ref a] ∧ H a = some (.ins C dx fs) ∧ fs.lookup f = some (.ref l) ∧ H l = some (.lst zs) ∧ ∀ it, H it = none → Q (.ref it) (upd H it (ItO l it 0))
theorem fn_iter {P : Program} {w : World} {K : PySem.W.Frag} {mg : Str → Option Value} {base : Heap} {x qual f : Str} {st : Stmt} {a C : Addr} {fd : FuncData} {N : List Str} {k : Nat} {p1 p2 p3 p4 p5 : Pos}
    (F : Fun K x qual st a fd) (Sc : FnScope N ["self"] (defScope st)) (hN : N[0]? = some ("self" : Str)) (cl : Cls K C) (na : NoAttr K C f) (mi : mg "iter" = none)
    (hb : defBody st = [.Return (some (.Call (.Name "iter" p1) [.Attribute (.Name "self" p2) f p3] [] p4)) p5])
    (hg : ∀ (cdv : Value) (A : Around) (outer : List PySem.Env) (s : Shared) (H : Hp) (E : XK), Gl (cxOf (L2.CX P w) P w K mg base N qual (defScope st) a cdv A outer s H E) "iter") : FnOk P w K mg base (L2.CX P w) (k + 1) a fd ["self"] (spIt C f) := by
  refine F.okX Sc (fun vs H Q E h => by obtain ⟨_, _, _, _, _, rfl, _⟩ := h; rfl) (fun cdv A outer s H vs Q E hr h => ?_)
  obtain ⟨b, dx, fs, l, zs, rfl, ha, hl, hz, q⟩ := h
  rw [hb]
  have v0 : ∀ {X : Cx}, X.N = N → X.env.scope = defScope st → PE X (.Name "self" p2) (tVar 0) := fun {X} e1 e2 => pe_var (i := 0) (by rw [e1]; exact hN) (by rw [e2]; exact (Sc.par "self" (List.Mem.head _)).elim (fun z => .inl z) (fun z => .inr (.inl z)))
  refine ⟨_, pss_one (ps_ret (pe_callB call_iterL (hg cdv A outer s H E) mi (by decide +kernel) (pa_cons (pe_fld (v0 rfl rfl) rfl) pa_nil))), ?_⟩
  exact ⟨.ref b, rfl, b, C, dx, fs, .ref l, rfl, ha, cl, na, hl, l, zs, rfl, .of hz, q⟩
def ItI (l it : Addr) (i : Nat) : HO := .ext fun h => h.IsListIter it l i
theorem itI_ok {P : Program} {w : World} {H : Hp} {h : Heap} {l it : Addr} {i : Nat} (e : h.IsListIter it l i) : ObjOk P w H h it (ItI l it i) := ⟨e, let ⟨o, ho, _⟩ := e; ⟨o, ho⟩, fun h1 h2 q k => let ⟨o, ho, r⟩ := q; ⟨o, k _ ho, r⟩⟩
structure ItF (K : PySem.W.Frag) (C fi : Addr) : Prop where
  it : PySem.W.findIn K (.ref C) "__iter__" = some (some (.ref fi))
  itF : PySem.W.isFn K (.ref fi) = true
  nolen : PySem.W.findIn K (.ref C) "__len__" = some none
  nohint : PySem.W.findIn K (.ref C) "__length_hint__" = some none
section
variable {X : Cx} {pins : List (Addr × Obj)} {σ : L2.St} {C fi a q l it : Addr} {fdI : FuncData} {f : Str} {zs : List V} {n : Nat} {A1 : Around}
theorem itI_loop {H0 : Hp} {Rs : Result → Shared → Prop} (hh : A1.in1.handled = none) (nlq : l ≠ q) (nli : l ≠ it) (nqi : q ≠ it) (hl : H0 l = some (.lst zs)) (hi : H0 it = none)
    (hdone : ∀ s, Inv X pins σ (upd H0 q (.lst zs)) s → Rs (.ok (.ret .none)) s) :
    ∀ (m i : Nat) (Hc : Hp) (s : Shared), m = zs.length - i → i ≤ zs.length → Inv X pins σ Hc s → Hc q = some (.lst (zs.take i)) → Hc it = some (ItI l it i) → (∀ b, b ≠ q → b ≠ it → Hc b = H0 b) →
      codeAny (model X.prog X.w) A1 (.builtin "list.extend.loop" ⟨[.ref q, .ref it, .none], []⟩) Rs s := by
  intro m
  induction m with
  | zero =>
    intro i Hc s hm hle I hq hI ho
    have : i = zs.length := by omega
    subst this
    refine codeAny_builtin PySem.F.entry_extend_loop ?_
    rw [Around.under_plainId PySem.F.plain_extend_loop _]
    show wpAny _ A1.in1 (pyNext (.ref it) >>= _) _ _ s
    have hit : s.heap.IsListIter it l zs.length := (I.hok it _ hI).1
    obtain ⟨its, rv, pl, hz⟩ := I.list (SqL.of (show Hc l = some (.lst zs) by rw [ho l nlq nli]; exact hl))
    refine wpAny_bind (ct_next_end hh hit pl.isList (by rw [List.getElem?_toArray]; exact rv.none_of (List.getElem?_eq_none (Nat.le_refl _))) fun h' sb ex => wpAny_pure (hdone _ ?_))
    have hI2 : Hc it = some (.ext fun h => h.IsListIter it l zs.length) := hI
    have J := inv_drop I hI2
    have J2 : Inv X pins σ (upd Hc it (.ext fun h => ∃ u, h.get? it = some u)) { s with heap := h' } := I.write (x := it) (e := it) (t' := s.toks) (by rw [hI]; exact True.intro) (.inl rfl) (fun b o nb z => sb b o nb z) ex ⟨ex, ex, fun h1 h2 q k => let ⟨u, z⟩ := q; ⟨u, k _ z⟩⟩
    have J3 := inv_drop J2 upd_same
    have e : dropH (upd Hc it (.ext fun h => ∃ u, h.get? it = some u)) it = upd H0 q (.lst zs) := by
      funext b
      by_cases hb : b = it
      · rw [hb, dropH_same, upd_ne (Ne.symm nqi), hi]
      · rw [dropH_ne hb, upd_ne hb]
        by_cases hq' : b = q
        · rw [hq', upd_same, hq, List.take_length]
        · rw [upd_ne hq', ho b hq' hb]
    rw [e] at J3
    exact J3
  | succ m ih =>
    intro i Hc s hm hle I hq hI ho
    have hlt : i < zs.length := by omega
    refine codeAny_builtin PySem.F.entry_extend_loop ?_
    rw [Around.under_plainId PySem.F.plain_extend_loop _]
    show wpAny _ A1.in1 (pyNext (.ref it) >>= _) _ _ s
    have hit : s.heap.IsListIter it l i := (I.hok it _ hI).1
    obtain ⟨its, rv, pl, hz⟩ := I.list (SqL.of (show Hc l = some (.lst zs) by rw [ho l nlq nli]; exact hl))
    obtain ⟨u, hu, ru⟩ := rv.get (List.getElem?_eq_getElem hlt)
    refine wpAny_bind (wpAny_pyNext_list_item hit pl.isList (by rw [List.getElem?_toArray]; exact hu) fun h' hit' sb => ?_)
    have J : Inv X pins σ (upd Hc it (ItI l it (i + 1))) { s with heap := h' } := I.write (x := it) (e := it) (t' := s.toks) (by rw [hI]; exact True.intro) (.inl rfl) (fun b o nb z => (sb.2 b nb).trans z) (let ⟨o, ho, _⟩ := hit'; ⟨o, ho⟩) (itI_ok hit')
    show wpAny _ A1.in1 (updateSeq q (·.push u) >>= _) _ _ _
    have hq' : upd Hc it (ItI l it (i + 1)) q = some (.lst (zs.take i)) := by rw [upd_ne nqi]; exact hq
    obtain ⟨z, jts, k, r2, hl2, e⟩ := J.lstM hq'
    have hn : zs.length ≤ sizeLine := hz
    have et : zs.take i ++ [zs[i]] = zs.take (i + 1) := by rw [List.take_succ, List.getElem?_eq_getElem hlt]; rfl
    have lt : (zs.take i).length = i := by rw [List.length_take]; omega
    refine wpAny_bind (wpAny_updateSeq e rfl (wpAny_pure ⟨plainId_quiet PySem.F.plain_extend_loop _, ?_⟩) (by rw [List.size_toArray]; omega) (by show (jts.toArray.push u).size ≤ sizeLine + 1; rw [Array.size_push, List.size_toArray]; omega))
    have J2 := J.lset (its' := jts ++ [u]) (ys := zs.take (i + 1)) (f := (·.push u)) (t' := s.toks) hq' e (by simp) (by rw [← et]; exact r2.append (.cons ru .nil)) (by rw [List.length_take]; omega)
    refine ih (i + 1) _ _ (by omega) hlt J2 upd_same (by rw [upd_ne (Ne.symm nqi), upd_same]) fun b nb1 nb2 => ?_
    rw [upd_ne nb1, upd_ne nb2]
    exact ho b nb1 nb2
def rLstO (C : Addr) (f : Str) : List V → Hp → VK → Prop := fun xs H Q => ∃ a dx fs l zs, xs = [.ref a] ∧ H a = some (.ins C dx fs) ∧ fs.lookup f = some (.ref l) ∧ H l = some (.lst zs) ∧ ∀ q, H q = none → Q (.ref q) (upd H q (.lst zs))
theorem it_hint {M : Model} {A : Around} {E : Value → Shared → Prop} {Q : Bool → Shared → Prop} {K : PySem.W.Frag} {ox : Obj} {od : Option Obj} {s : Shared} (hc : ItF K C fi) (hK : K.In s.heap) (J : PySem.W.InstAt s.heap a ox C od) (h : Q true s) :
    wpAny M A (Builtin.List.listLengthHint (.ref a)) Q E s := by
  unfold Builtin.List.listLengthHint
  refine wpAny_bind (wpAny_bind (J.type.here ((PySem.W.looks_findIn hK hc.nolen).here ?_)))
  refine PySem.W.KFB.if_not rfl ?_
  refine PySem.W.KFB.if_not rfl ?_
  refine wpAny_bind (wpAny_bind (J.type.here ((PySem.W.looks_findIn hK hc.nohint).here ?_)))
  exact wpAny_pure h
theorem env_in {outer : List PySem.Env} {s : Shared} {H : Hp} (sb : Sub X n A1) (e : Env0 X.prog X.w X.K X.mg X.base X.A outer s H) : Env0 X.prog X.w X.K X.mg X.base A1 outer s H := ⟨by rw [sb.fr]; exact e.frames, e.mod, e.bs, e.bsz, e.funs, e.frf, e.hok, e.bare⟩
theorem call_listO (hcm : X.calm = true) (hc : ItF X.K C fi) (FI : FnOk X.prog X.w X.K X.mg X.base (L2.CX X.prog X.w) n fi fdI ["self"] (spIt C f)) (bI : Binds X.K fdI ["self"] []) (hr : Room (n + 2) X.A) : CallR X (.type "list") (rLstO C f) := by
  intro pins s σ H xs us Q I rv h
  obtain ⟨a, dx, fs, l, zs, rfl, ha, hf, hl, hq⟩ := h
  obtain ⟨u, rfl, ru⟩ := rv.one
  cases ru
  have sb : Sub X n X.A.in1.in1 := (Sub.in1 (Sub.in1 (⟨hr, rfl⟩ : Sub X (n + 2) X.A)))
  refine callType_codes (Q₁ := fun obj s₁ => obj = .ref s.heap.objs.size ∧ s₁ = { s with heap := s.heap.push { cls := .type "list", data := .seq #[] } }) PySem.F.called_list (PySem.F.typeCall_list_1 _) PySem.F.entry_list_init
    (code_list_new _ ⟨rfl, rfl⟩) fun obj s₁ h₁ => ?_
  obtain ⟨rfl, rfl⟩ := h₁
  generalize hS0 : s.heap.objs.size = S at *
  have hS : (s.heap.push { cls := .type "list", data := .seq #[] }).get? S = some { cls := .type "list", data := .seq #[] } := by rw [← hS0]; exact Heap.get?_push_size _ rfl
  refine ⟨⟨_, hS, rfl⟩, PySem.F.args_list_init_2 _ _, ?_⟩
  have fr : H S = none := by rw [← hS0]; exact I.hok.fresh (Nat.le_refl _)
  have I1 : Inv X pins σ (upd H S (.lst [])) { s with heap := s.heap.push { cls := .type "list", data := .seq #[] } } := by rw [← hS0]; exact I.lnew (its := []) (t' := s.toks) .nil (Nat.zero_le _)
  show wpAny _ _ (do let old ← Builtin.List.listItems (.ref S); Builtin.List.listUpdate (.ref S) (fun _ => #[]); letGo old.toList.reverse; Builtin.List.listExtendWith (.ref S) (.ref a) .none) _ _ _
  refine wpAny_bind ?_
  unfold Builtin.List.listItems
  refine wpAny_bind (wpAny_seqItems hS rfl (wpAny_pure ?_))
  show wpAny _ _ (updateSeq S (fun _ => #[]) >>= fun _ => letGo (#[] : Array Value).toList.reverse >>= fun _ => Builtin.List.listExtendWith (.ref S) (.ref a) .none) _ _ _
  refine wpAny_bind (wpAny_updateSeq hS rfl ?_)
  have I2 := I1.lset (f := fun _ => #[]) (its := []) (its' := []) (ys := []) (t' := s.toks) upd_same hS rfl .nil (Nat.zero_le _)
  rw [upd_upd] at I2
  refine wpAny_bind (wpAny_letGo ?_)
  have nSa : S ≠ a := fun z => by rw [← z, fr] at ha; cases ha
  have nSl : l ≠ S := fun z => by rw [z, fr] at hl; cases hl
  have ha2 : upd H S (.lst []) a = some (.ins C dx fs) := by rw [upd_ne (Ne.symm nSa)]; exact ha
  have hl2 : upd H S (.lst []) l = some (.lst zs) := by rw [upd_ne nSl]; exact hl
  obtain ⟨mA, J, _⟩ := ins_get I2.hok ha2
  obtain ⟨od, J, _⟩ := J.look
  obtain ⟨m0, hF⟩ := I2.fr
  unfold Builtin.List.listExtendWith
  refine wpAny_bind (J.type.here ?_)
  have h1 : Builtin.List.listSameRef (.ref S) (.ref a) = false := by simp [Builtin.List.listSameRef, nSa]
  have h2 : (Value.ref C == Value.type "list") = false := rfl
  have h3 : (Value.ref C == Value.type "tuple") = false := rfl
  simp only [h1, h2, h3, Bool.or_false, Bool.false_eq_true, if_false]
  refine wpAny_bind (PySem.W.owit_iter hF I2.ok.mod.kin J hc.it hc.itF ?_)
  have e0 := env_in sb I2.env0
  have hsp : spIt C f [.ref a] (upd H S (.lst [])) (fun v H' => ∃ it, v = .ref it ∧ upd H S (.lst []) it = none ∧ H' = upd (upd H S (.lst [])) it (ItO l it 0)) (fun _ _ _ => False) := ⟨a, dx, fs, l, zs, rfl, ha2, hf, hl2, fun it hn => ⟨it, rfl, hn, rfl⟩⟩
  have r2 : Vals [V.ref a] [Value.ref a] := .cons rfl .nil
  refine wpAny_call (codeAny_mono (FI.run X.A.in1.in1 X.stack _ (upd H S (.lst [])) ⟨[.ref a], []⟩ [.ref a] [.ref a] _ (fun _ _ _ => False) sb.room e0 (by
    have := bI _ [.ref a] I2.kIn (by rfl)
    simpa using this) r2 hsp) fun r s' hq' => ?_)
  cases r with
  | error e =>
    obtain ⟨_, _, _, _, _, _, _, _, _, _, _, _, z⟩ := hq'
    exact z.elim
  | ok fl =>
    cases fl with
    | next => exact False.elim hq'
    | brk => exact False.elim hq'
    | cont => exact False.elim hq'
    | ret u =>
      obtain ⟨v, H', I', rv, it, ev, hit0, eH⟩ := I2.after hq'
      subst ev
      subst eH
      cases rv
      have eo := itO_get I' upd_same
      have hT : s'.TypeIs (.ref it) "list_iterator" := ⟨_, eo, rfl⟩
      show PySem.W.OwitIt _ _ _ _ (.ref it) s'
      unfold PySem.W.OwitIt
      refine wpAny_specialOf (name := Str.ofString "__next__") hT slot_listiter_next.lookup ?_
      have nia : a ≠ it := fun z => by rw [z, hit0] at ha2; cases ha2
      have nil' : l ≠ it := fun z => by rw [z, hit0] at hl2; cases hl2
      have nSi : S ≠ it := fun z => by rw [← z, upd_same] at hit0; cases hit0
      have ha3 : upd (upd H S (.lst [])) it (ItO l it 0) a = some (.ins C dx fs) := by rw [upd_ne nia]; exact ha2
      obtain ⟨mA', J', _⟩ := ins_get I'.hok ha3
      obtain ⟨od', J', _⟩ := J'.look
      have K1 : Inv X pins σ (upd (upd (upd H S (.lst [])) it (ItO l it 0)) it (ItI l it 0)) s' := I'.write (h' := s'.heap) (x := it) (e := it) (t' := s'.toks) (by rw [upd_same]; exact True.intro) (.inl rfl) (fun b o nb z => z) ⟨_, eo⟩ (itI_ok ⟨_, eo, rfl, rfl⟩)
      rw [upd_upd] at K1
      have hSq : upd (upd H S (.lst [])) it (ItI l it 0) S = some (.lst []) := by rw [upd_ne nSi, upd_same]
      have hlast : ∀ (Hc : Hp) (s2 : Shared), Inv X pins σ Hc s2 → Hc = upd (upd H S (.lst [])) it (ItI l it 0) → codeAny (model X.prog X.w) X.A.in1 (.builtin "list.extend.loop" ⟨[.ref S, .ref it, .none], []⟩) (wants (fun r s₂ => r = .none ∧ EP X pins σ Q (.ref S) s₂) X.xe) s2 := fun Hc s2 K2 eH => by
        subst eH
        refine itI_loop (A1 := X.A.in1) (H0 := H) (I.ok.hd hcm) nSl nil' nSi hl (by rw [upd_ne (Ne.symm nSi)] at hit0; exact hit0) (fun s3 K3 => ⟨rfl, .ref S, _, K3, rfl, hq S fr⟩) zs.length 0 _ s2 rfl (Nat.zero_le _) K2 hSq upd_same fun b n1 n2 => ?_
        rw [upd_ne n2, upd_ne n1]
      refine wpAny_bind (wpAny_holding (it_hint hc I'.kIn J' ?_))
      obtain ⟨z, its, k, r3, hl3, e3⟩ := K1.lstM hSq
      cases r3
      refine wpAny_ite_split (fun _ => ?_) (fun _ => wpAny_pure ⟨plainId_quiet PySem.F.plain_extend_loop _, hlast _ s' K1 rfl⟩)
      refine wpAny_bind (wpAny_rule ?_)
      refine wpAny_bind ?_
      show wpAny _ _ (updateSeq S (·.push .none) >>= fun _ => updateSeq S (·.pop)) _ _ _
      refine wpAny_bind (wpAny_updateSeq e3 rfl ?_)
      have I4 := K1.lset (f := (·.push Value.none)) (its' := [Value.none]) (ys := [.non]) (t' := s'.toks) hSq e3 (by simp) (.cons rfl .nil) (by rw [List.length_singleton, sizeLine_eq]; decide)
      obtain ⟨z4, its4, k4, r4, hl4, e4⟩ := I4.lstM upd_same
      obtain ⟨u4, rfl, ru4⟩ := r4.one
      refine wpAny_updateSeq e4 rfl ?_ (by show 1 ≤ sizeLine; rw [sizeLine_eq]; decide) (by show 0 ≤ sizeLine + 1; exact Nat.zero_le _)
      have I5 := I4.lset (f := (·.pop)) (its := [u4]) (its' := []) (ys := []) (t' := s'.toks) upd_same e4 (by rfl) .nil (Nat.zero_le _)
      rw [upd_upd] at I5
      refine wpAny_pure ⟨plainId_quiet PySem.F.plain_extend_loop _, hlast _ _ I5 ?_⟩
      funext b
      by_cases hb : b = S
      · rw [hb, upd_same, hSq]
      · rw [upd_ne hb]
end
end Ct

namespace Ct
open PySem PySem.Spec PyProof.Rows L2 ItX
def fLstOG (C : Addr) (ns : List Str) (m : Nat) (fe : Rho → Rs D) : Rho → Rs D := fun ρ => (fe ρ).bind fun d => match objS C ns d with
  | some ds => match ds[m]? with
    | some (.list es) => .ok (.list es)
    | _ => .stuck
  | none => .stuck
def fLstOT (C : Addr) (ns : List Str) (i m : Nat) : Rho → Rs D := fun ρ => match treeAt ρ i with
  | some (k, d) => match objS C ns d with
    | some ds => match ds[m]? with
      | some (.list es) => if k.node = true ∧ k.at' m = .r .g then .ok (.list es) else .stuck
      | _ => .stuck
    | none => .stuck
  | none => .stuck
section
variable {S : Sx} {C fi : Addr} {ns : List Str} {f x : Str} {i m n : Nat} {p p2 pos : Pos} {e : Expr} {fe : Rho → Rs D} {fdI : FuncData}
theorem xlistOG (hcm : S.X.calm = true) (O : ClO S.X.K C ns) (hf : ns[m]? = some f) (hc : ItF S.X.K C fi) (FI : FnOk S.X.prog S.X.w S.X.K S.X.mg S.X.base (L2.CX S.X.prog S.X.w) n fi fdI ["self"] (spIt C f)) (bI : Binds S.X.K fdI ["self"] []) (hr : Room (n + 2) S.X.A)
    (hm : S.X.mg "list" = none) (h : XX S .e e fe) (hg : Gl S.X "list" := by rfl) (he : starEach (e :: []) S.X.env = (false, eval e S.X.env) :: starEach [] S.X.env := by rfl) (hpl : (backTo pos (starEach [] S.X.env)).any (·.1) = false := by rfl) :
    XX S .o (.Call (.Name "list" p) [e] [] pos) (fLstOG C ns m fe) :=
  let ⟨_, a1, a2⟩ := h
  ⟨_, pe_callTy (call_listO hcm hc FI bI hr) hg hm (by decide +kernel) (pa_cons a1 pa_nil he) (he := he) (hpl := hpl), fun H0 G0 σ H G ρ Q q w => by
    refine a2 H0 G0 σ H G ρ _ q (Wp.imp w.bind (fun d wd v H1 G1 s1 r1 => ?_) fun _ z => z)
    split at wd
    · rename_i ds eo
      split at wd
      · rename_i es ee
        obtain ⟨b, dx, fs, rfl, hb, en, rl⟩ := Rp.obj r1 eo
        obtain ⟨u, ev, ru⟩ := rl.get ee
        obtain ⟨l, zs, rfl, hl, rz⟩ := Rp.lst_inv ru
        refine ⟨b, dx, fs, l, zs, rfl, s1.sub _ _ hb, look_at en O.nd hf ev, s1.sub _ _ hl, fun q' hq' => ?_⟩
        exact wp_ok wd _ _ G1 (s1.trans (Step.newO s1.sub hq')) ⟨q', zs, es, rfl, rfl, upd_same, Same.free s1.hh hq', Same.free s1.sub hq', rz⟩
      · exact wd.elim
    · exact wd.elim⟩
end
end Ct

namespace Ct
open PySem PySem.Spec PyProof.Rows L2 ItX
end Ct

namespace Ct
open PySem PySem.Spec PyProof.Rows L2 ItX
def iObS (C : Addr) (ns : List Str) (m : Nat) (fe : Rho → Rs D) : Rho → Rs (List D) := fun ρ => (fe ρ).bind fun d => match objS C ns d with
  | some ds => match ds[m]? with
    | some (.list es) => .ok es
    | _ => .stuck
  | none => .stuck
theorem runI_ne {ms : List (Option Sh)} {n : Nat} {g : Rho → Out} (ds : List D) (h : runI ms n g ds ≠ .stuck) : ds.length = ms.length := by
  by_cases z : ds.length = ms.length
  · exact z
  · exact absurd (runI_len ds z) h
end Ct

namespace Ct
open PySem L2
@[simp] theorem q_fFldG (C : Addr) (ns : List Str) (m : Nat) (fe : Rho → Rs D) {ρ : Rho} : fFldG C ns m fe ρ = ((fe ρ).bind fun d => match objS C ns d with
  | some ds => match ds[m]? with
    | some x => .ok x
    | none => .stuck
  | none => .stuck) := id rfl
@[simp] theorem q_fMethG (C : Addr) (ns : List Str) (f : List D → Rs D) (fo : Rho → Rs D) (g : Rho → Rs (List D)) {ρ : Rho} : fMethG C ns f fo g ρ = ((fo ρ).bind fun d0 => match objS C ns d0 with
  | some _ => (g ρ).bind fun ds => f (d0 :: ds)
  | none => .stuck) := id rfl
@[simp] theorem q_fLstOG (C : Addr) (ns : List Str) (m : Nat) (fe : Rho → Rs D) {ρ : Rho} : fLstOG C ns m fe ρ = ((fe ρ).bind fun d => match objS C ns d with
  | some ds => match ds[m]? with
    | some (.list es) => .ok (.list es)
    | _ => .stuck
  | none => .stuck) := id rfl
@[simp] theorem q_iObS (C : Addr) (ns : List Str) (m : Nat) (fe : Rho → Rs D) {ρ : Rho} : iObS C ns m fe ρ = ((fe ρ).bind fun d => match objS C ns d with
  | some ds => match ds[m]? with
    | some (.list es) => .ok es
    | _ => .stuck
  | none => .stuck) := id rfl
@[simp] theorem q_fMake (C : Addr) (f : List D → Ri) (g : Rho → Rs (List D)) {ρ : Rho} : fMake C f g ρ = ((g ρ).bind fun ds => match f (objD C [] [] :: ds) with
  | .ok .none [s] => .ok s
  | .exc e _ => .exc e
  | _ => .stuck) := id rfl
theorem q_fFldNew (C : Addr) (ns : List Str) (f : Str) (i : Nat) (s : Sh) (fe : Rho → Rs D) {ρ : Rho} {k : Sh} {ds : List D} (h : ρ[i]? = some (.ot k (objD C ns ds))) (hl : ns.length = ds.length) (hk : k.node = true) (hs : k.at' ds.length = s) :
    fFldNew C ns f i s fe ρ = (fe ρ).out ρ fun x => .nx (ρ.set i (.ot k (objD C (ns ++ [f]) (ds ++ [x])))) := by
  unfold fFldNew
  rw [h]
  dsimp only
  rw [objS_ob hl]
  dsimp only
  rw [if_pos ⟨hk, hs⟩]
theorem slW_obr (C : Addr) (ns : List Str) (ds : List D) : slW (.r .g) (objD C ns ds) = .ot (.r .g) (objD C ns ds) := id rfl
end Ct

namespace Lw
open PySem PySem.Spec PyProof.Rows L2 Ct
abbrev ns_Profile : List Str := ["periods", "size", "floor", "pieces"]
def c_Profile_call_1 (pC : Nat) : Rho → Rs D := (fComp [2, 3, 4, 5, 6] (iLst (fFldG pC ns_Profile 3 (fV 0))) (tgT [(tgN 2), (tgN 3), (tgN 4), (tgN 5), (tgN 6)]) fYes (fBin sAdd (fV 5) (fBin sMul (fV 6) (fV 1))))
def g_Profile_call (pC : Nat) : Rho → Out := (fSeq (fIf (toB (fBin sLt (fV 1) (fC (.int 0))))
  (fRaise 7 aNil)
  fSkip)
  (fSeq (fIf (toB (fBin sEq (fV 1) (fC (.int 0))))
  (fRet (fFldG pC ns_Profile 2 (fV 0)))
  fSkip)
  (fSeq (fIf (toB (fBin sEq (fFldG pC ns_Profile 1 (fV 0)) (fC (.int 0))))
  (fRaise 2 aNil)
  fSkip)
  (fRet (fCl (o1 sMin) (aCons (c_Profile_call_1 pC) aNil))))))
def f_Profile_call (pC : Nat) : List D → Rs D := runB false 2 7 (g_Profile_call pC)
theorem u_Profile_call (pC : Nat) (y0 y1 : D) : f_Profile_call pC [y0, y1] = (g_Profile_call pC [.va y0, .va y1, .un, .un, .un, .un, .un]).res false := runB_eq rfl

def g_Profile_init (pC : Nat) : Rho → Out := (fSeq (fDrop (fCallD f_check_periods .none (aCons (fV 1) aNil)))
  (fSeq (fFldNew pC [] "periods" 0 (.g) (fUn sList (fV 1)))
  (fSeq (fFldNew pC ["periods"] "size" 0 (.g) (fCl (o1 sLen) (aCons (fV 1) aNil)))
  (fSeq (fFldNew pC ["periods", "size"] "floor" 0 (.g) (fCallD f_least_cost (.int 0) (aCons (fV 1) aNil)))
  (fFldNew pC ["periods", "size", "floor"] "pieces" 0 (.g) (fCall f_profile_pieces (aCons (fV 1) aNil)))))))
def f_Profile_init (pC : Nat) : List D → Ri := runI [some (.r .g), none] 2 (g_Profile_init pC)
theorem u_Profile_init (pC : Nat) (y0 y1 : D) : f_Profile_init pC [y0, y1] = (g_Profile_init pC [slW (.r .g) y0, .va y1]).resI [some (.r .g), none] := runI_eq rfl
def g_Profile_then (pC : Nat) : Rho → Out := (fRet (fMake pC (f_Profile_init pC) (aCons (fBin sAdd (fFldG pC ns_Profile 0 (fV 0)) (fLst (aCons (fV 1) aNil))) aNil)))
def f_Profile_then (pC : Nat) : List D → Rs D := runB false 2 2 (g_Profile_then pC)
theorem u_Profile_then (pC : Nat) (y0 y1 : D) : f_Profile_then pC [y0, y1] = (g_Profile_then pC [.va y0, .va y1]).res false := runB_eq rfl
end Lw

namespace Lw
open PySem Ct L2
def prD (pC : Nat) (l : List Per) : D := objD pC ns_Profile [rowsD l, .int (l.length : Int), .int (LC l 0), pcsD l]
@[simp] theorem objS_pr (pC : Nat) (l : List Per) : objS pC ns_Profile (prD pC l) = some [rowsD l, .int (l.length : Int), .int (LC l 0), pcsD l] := objS_ob rfl
theorem fldNewP {pC : Nat} {ns : List Str} {f : Str} {fe : Rho → Rs D} {ds : List D} {x : Sl} (hl : ns.length = ds.length) : fFldNew pC ns f 0 .g fe [.ot (.r .g) (objD pC ns ds), x] = (fe [.ot (.r .g) (objD pC ns ds), x]).out [.ot (.r .g) (objD pC ns ds), x] fun y => .nx [.ot (.r .g) (objD pC (ns ++ [f]) (ds ++ [y])), x] :=
  q_fFldNew pC ns f 0 .g fe (k := .r .g) rfl hl rfl rfl
@[simp] theorem init_res {k : Sh} {d : D} {x : Sl} : Out.resI [some k, none] (.nx [.ot k d, x]) = .ok .none [d] := by
  show (match (match ioD k (some (.ot k d)) with | some d => (some ([] : List D)).map (d :: ·) | none => none) with | some ss => Ri.ok .none ss | none => .stuck) = _
  simp [ioD]
theorem init_ok (pC : Nat) (l : List Per) (hg : Gds l) (hl : l.length ≤ 400) : f_Profile_init pC [objD pC [] [], rowsD l] = .ok .none [prD pC l] := by
  rw [u_Profile_init, slW_obr]
  unfold g_Profile_init
  have ck := check_ok l hg
  have b0 : (0 : Int) ≤ 1000000 * BC := by decide
  have lc := least_cost_ok l 0 hg (by omega) (by omega) b0 (fun h => by omega)
  have pc := pieces_ok l hg (by omega)
  have sl : sList (rowsD l) = .ok (rowsD l) := id rfl
  have ln : sLen (rowsD l) = .ok (.int (l.length : Int)) := by simp
  have d0 : prD pC l = objD pC ["periods", "size", "floor", "pieces"] [rowsD l, .int (l.length : Int), .int (LC l 0), pcsD l] := rfl
  rw [d0]
  generalize pcsD l = R at *
  generalize rowsD l = P at *
  generalize LC l 0 = c at *
  generalize l.length = n at *
  simp [fldNewP, ck, lc, pc, sl, ln]
theorem pcA_le : ∀ (r : List (Option (Int × Option Int))) (k : Nat), (pcA k r).length ≤ r.length
  | [], _ => Nat.le_refl _
  | none :: r, k => by have := pcA_le r (k + 1); rw [pcA, List.length_cons]; omega
  | some (lo, hi) :: r, k => by have := pcA_le r (k + 1); rw [pcA, List.length_cons, List.length_cons]; omega
theorem pcs_len (l : List Per) : (pcs l).length ≤ l.length := by
  have := pcA_le (rngsA [] (lnl l)) 0
  rw [rngsA_len, lnl_len] at this
  exact this
theorem pcs_min {l : List Per} (hg : Gds l) (hl : l ≠ []) {e : Int} (he : 1 ≤ e) : lmin ((pcs l).map fun p => base l p.1 + rate l p.1 * e) = LC l e := by
  have hp : 0 < l.length := List.length_pos_iff.mpr hl
  obtain ⟨j, hj, hv⟩ := LC_at (l := l) (e := e) hp (by omega)
  obtain ⟨lo, hi, m, _⟩ := (pcs_spec hg hj he).mp hv.symm
  refine lmin_eq (List.mem_map.mpr ⟨_, m, ?_⟩) fun y hy => ?_
  · rw [← line_at, hv]
  · obtain ⟨p, hp', rfl⟩ := List.mem_map.mp hy
    rw [← line_at]
    exact LC_le hg (pcs_lt hp')
theorem call_at (pC : Nat) (l : List Per) (e : Int) (hg : Gds l) (hl : l.length ≤ 400) (he : 0 ≤ e) (he2 : e ≤ 1000000 * BC) (h : 0 < e → l ≠ []) : f_Profile_call pC [prD pC l, .int e] = .ok (.int (LC l e)) := by
  rw [u_Profile_call]
  unfold g_Profile_call
  by_cases z : e = 0
  · subst z
    simp
  · have hp := h (by omega)
    have n0 : ¬ (l.length : Int) = 0 := by
      have := List.length_pos_iff.mpr hp
      omega
    have hm : ∀ p ∈ pcs l, sMul (.int (rate l p.1)) (.int e) = .ok (.int (rate l p.1 * e)) := fun p hp => by
      have r1 := rate_le hg p.1
      have r2 := rate_pos hg (pcs_lt hp)
      have m : (l.length : Int) * BB ≤ (400 : Nat) * BB := mul_BB hl
      have := BC_big
      have := BB_pos
      exact mulC (by omega) (by omega) (by omega) (by omega)
    have pl := pcs_len l
    have cc2 : c_Profile_call_1 pC [.va (prD pC l), .va (.int e), .un, .un, .un, .un, .un] = .ok (.list ((pcs l).map fun p => PyData.int (base l p.1 + rate l p.1 * e))) := by
      unfold c_Profile_call_1
      have e1 : pcsD l = .list ((pcs l).map (pcD l)) := rfl
      refine comp_list (pcD l) (fun p => PyData.int (base l p.1 + rate l p.1 * e)) (pcs l) (by omega) (by simp [e1]) rfl fun p hp => ⟨_, rfl, ?_⟩
      simp [hm p hp]
    have mi := pcs_min hg hp (e := e) (by omega)
    have ne : ((pcs l).map fun p => base l p.1 + rate l p.1 * e) ≠ [] := fun q => by
      obtain ⟨j, hj, hv⟩ := LC_at (l := l) (e := e) (List.length_pos_iff.mpr hp) (by omega)
      obtain ⟨lo, hi, m, _⟩ := (pcs_spec hg hj (by omega)).mp hv.symm
      rw [List.map_eq_nil_iff] at q
      rw [q] at m
      cases m
    have mn := min_ints ne
    rw [mi] at mn
    have ie : intsL ((pcs l).map fun p => base l p.1 + rate l p.1 * e) = .list ((pcs l).map fun p => PyData.int (base l p.1 + rate l p.1 * e)) := by simp [intsL, List.map_map, Function.comp_def]
    rw [ie] at mn
    have e0 : ¬ e < 0 := by omega
    generalize ((pcs l).map fun p => PyData.int (base l p.1 + rate l p.1 * e)) = W at *
    simp [z, hp, cc2, mn, e0]
end Lw

namespace Lw
open PySem Ct L2
end Lw

namespace Lw
open PySem Ct L2
end Lw

namespace Lw
open PySem Ct L2
theorem Fst_pos {l : List Per} (hg : Gds l) {e q : Int} (he : 1 ≤ e) (hq : q ≤ dsum l) : Fst l e q ↔ ∃ j lo hi, (j, lo, hi) ∈ pcs l ∧ 0 < j ∧ Fst (l.take j) 0 q ∧ lo ≤ e ∧ below hi e := by
  by_cases hp : l = []
  · subst hp
    constructor
    · intro h; exact absurd rfl h.ne
    · rintro ⟨j, lo, hi, h, _⟩
      have := pcs_lt h
      simp at this
  · obtain ⟨n, hn⟩ : ∃ n, l.length = n + 1 := ⟨l.length - 1, by have := List.length_pos_iff.mpr hp; omega⟩
    have hz : ¬ (e = 0 ∧ dem l n = 0) := fun z => by omega
    constructor
    · rintro ⟨p, h, hh⟩
      obtain ⟨s, p', s1, s2, s3, rfl⟩ := (Op_s hg hn (by omega) hz p).mp h
      rw [← hn] at s2
      obtain ⟨lo, hi, k1, k2, k3⟩ := (pcs_spec hg (by omega) he).mp s2
      have l3 := s3.len
      rw [List.length_take] at l3
      by_cases h0 : p' = []
      · exfalso
        subst h0
        have s0 : s = 0 := by simp at l3; omega
        subst s0
        have e1 : seg l 0 (n + 1) = l := by rw [← hn, seg_all, List.drop_zero]
        have : q = e + dsum (seg l 0 (n + 1)) := by simpa [tl] using hh.symm
        rw [e1] at this
        omega
      · rw [head_app h0] at hh
        have : 0 < p'.length := List.length_pos_iff.mpr h0
        exact ⟨s, lo, hi, k1, by omega, ⟨p', s3, hh⟩, k2, k3⟩
    · rintro ⟨j, lo, hi, k1, k2, ⟨p', s3, hh⟩, k3, k4⟩
      have hj : j < l.length := pcs_lt k1
      have hv := (pcs_spec hg hj he).mpr ⟨lo, hi, k1, k3, k4⟩
      rw [hn] at hv
      refine ⟨p' ++ tl l (n + 1) e j, (Op_s hg hn (by omega) hz _).mpr ⟨j, p', by omega, hv, s3, rfl⟩, ?_⟩
      have : p' ≠ [] := fun z => by rw [z] at hh; cases hh
      rw [head_app this]
      exact hh
theorem key_test {l : List Per} {T : List (List (Int × List Int))} (hT : Tab l T l.length) {j : Nat} (h1 : 1 ≤ j) (h2 : j ≤ l.length) (q : Int) : ∃ b : Bool, (b = true ↔ Fst (l.take j) 0 q) ∧ sIx (tbD T) (.int (j : Int)) = .ok (dD (T.getD j [])) ∧ sDIn (.int q) (dD (T.getD j [])) = .ok (.bool b) := by
  have hl := hT.len
  have gt : sIx (tbD T) (.int (j : Int)) = .ok (dD (T.getD j [])) := ix_map (by rw [List.getD_eq_getElem?_getD, List.getElem?_eq_getElem (by omega)]; rfl)
  refine ⟨(lookL (T.getD j []) q).isSome, ?_, gt, ?_⟩
  · have hd := hT.at' j h1 h2
    rcases hd.look q with ⟨p, e, a, b, _⟩ | ⟨e, a⟩
    · rw [e]
      exact ⟨fun _ => ⟨p, a, b⟩, fun _ => rfl⟩
    · rw [e]
      constructor
      · intro h; cases h
      · rintro ⟨p, h1, h2⟩
        exact absurd h2 (a p h1)
  · unfold dD
    rw [q_din, look_pm, Option.isSome_map]
theorem kD_dD (m : List (Int × List Int)) : kD (dD m) = .ok (dD m) := by
  unfold dD
  exact q_kD _
theorem gap_loop {l : List Per} (hg : Gds l) {T : List (List (Int × List Int))} (hT : Tab l T l.length) {q : Int} (hq : q ≤ dsum l) (PD GD : D) : ∀ (P pre : List Pc) (reach : Int) (s5 s6 s7 s8 s9 : Sl), pcs l = pre ++ P → 0 ≤ reach → (∀ e, 1 ≤ e → e ≤ reach → Fst l e q) → (∀ j lo hi, (j, lo, hi) ∈ pre → 0 < j → Fst (l.take j) 0 q → ∃ h, hi = some h ∧ h ≤ reach) →
    (loopS (tgT [(tgN 5), (tgN 6), (tgN 7), (tgN 8), (tgN 9)]) b_first_gap_1 (P.map (pcD l)) [.va (tbD T), .va PD, .va (.int q), .va GD, .va (.int reach), s5, s6, s7, s8, s9] = .ret .none ∧ ∀ e, 1 ≤ e → Fst l e q) ∨
    ∃ (r' : Int) (t5 t6 t7 t8 t9 : Sl), 0 ≤ r' ∧ (∀ e, 1 ≤ e → e ≤ r' → Fst l e q) ∧ ¬ Fst l (r' + 1) q ∧ loopS (tgT [(tgN 5), (tgN 6), (tgN 7), (tgN 8), (tgN 9)]) b_first_gap_1 (P.map (pcD l)) [.va (tbD T), .va PD, .va (.int q), .va GD, .va (.int reach), s5, s6, s7, s8, s9] = .nx [.va (tbD T), .va PD, .va (.int q), .va GD, .va (.int r'), t5, t6, t7, t8, t9]
  | [], pre, reach, s5, s6, s7, s8, s9, hs, h0, h1, h2 => by
    rw [List.append_nil] at hs
    refine .inr ⟨reach, s5, s6, s7, s8, s9, h0, h1, fun h => ?_, by simp [loopS]⟩
    obtain ⟨j, lo, hi, k1, k2, k3, k4, k5⟩ := (Fst_pos hg (by omega) hq).mp h
    rw [hs] at k1
    obtain ⟨h', rfl, hh⟩ := h2 j lo hi k1 k2 k3
    have := k5 _ rfl
    omega
  | (j, lo, hi) :: P, pre, reach, s5, s6, s7, s8, s9, hs, h0, h1, h2 => by
    have hm : (j, lo, hi) ∈ pcs l := by rw [hs]; exact List.mem_append.mpr (.inr List.mem_cons_self)
    have hj : j < l.length := pcs_lt hm
    have hs' : pcs l = (pre ++ [(j, lo, hi)]) ++ P := by rw [hs, List.append_assoc]; rfl
    have pe : pcD l (j, lo, hi) = .tuple [.int (j : Int), .int lo, capD hi, .int (base l j), .int (rate l j)] := rfl
    rw [List.map_cons, pe]
    by_cases hc : 0 < j ∧ Fst (l.take j) 0 q
    · obtain ⟨c1, c2⟩ := hc
      obtain ⟨b, hb, g1, g2⟩ := key_test hT (j := j) (by omega) (by omega) q
      have bt := hb.mpr c2
      subst bt
      have kd := kD_dD (T.getD j [])
      generalize dD (T.getD j []) = DJ at *
      by_cases hbr : reach + 1 < lo
      · refine .inr ⟨reach, .va (.int (j : Int)), .va (.int lo), .va (capD hi), .va (.int (base l j)), .va (.int (rate l j)), h0, h1, fun h => ?_, by simp [loopS, b_first_gap_1, c1, g1, kd, g2, hbr]⟩
        obtain ⟨j', lo', hi', k1, k2, k3, k4, k5⟩ := (Fst_pos hg (by omega) hq).mp h
        rw [hs] at k1
        rcases List.mem_append.mp k1 with k1 | k1
        · obtain ⟨h', rfl, hh⟩ := h2 j' lo' hi' k1 k2 k3
          have := k5 _ rfl
          omega
        · rcases List.mem_cons.mp k1 with k1 | k1
          · injection k1 with a b
            injection b with b c
            omega
          · have pw := pcs_pw hg (l := l)
            rw [hs, List.pairwise_append, List.pairwise_cons] at pw
            have := (pw.2.1.1 _ k1).2
            dsimp only at this
            omega
      · cases hi with
        | none =>
          left
          refine ⟨by simp [loopS, b_first_gap_1, c1, g1, kd, g2, hbr], fun e he => ?_⟩
          by_cases hr : e ≤ reach
          · exact h1 e he hr
          · exact (Fst_pos hg he hq).mpr ⟨j, lo, none, hm, c1, c2, by omega, fun h z => by cases z⟩
        | some h =>
          have ih := gap_loop hg hT hq PD GD P (pre ++ [(j, lo, some h)]) (max reach h) (.va (.int (j : Int))) (.va (.int lo)) (.va (.int h)) (.va (.int (base l j))) (.va (.int (rate l j))) hs' (by omega) (fun e e1 e2 => by
            by_cases hr : e ≤ reach
            · exact h1 e e1 hr
            · exact (Fst_pos hg e1 hq).mpr ⟨j, lo, some h, hm, c1, c2, by omega, fun k z => by cases z; omega⟩) (fun j' lo' hi' k1 k2 k3 => by
            rcases List.mem_append.mp k1 with k1 | k1
            · obtain ⟨h', e1, e2⟩ := h2 j' lo' hi' k1 k2 k3
              exact ⟨h', e1, by omega⟩
            · have k1 := List.mem_singleton.mp k1
              injection k1 with a b
              injection b with b c
              exact ⟨h, c, by omega⟩)
          have step : ∀ X, loopS (tgT [(tgN 5), (tgN 6), (tgN 7), (tgN 8), (tgN 9)]) b_first_gap_1 (P.map (pcD l)) [.va (tbD T), .va PD, .va (.int q), .va GD, .va (.int (max reach h)), .va (.int (j : Int)), .va (.int lo), .va (.int h), .va (.int (base l j)), .va (.int (rate l j))] = X → loopS (tgT [(tgN 5), (tgN 6), (tgN 7), (tgN 8), (tgN 9)]) b_first_gap_1 (.tuple [.int (j : Int), .int lo, capD (some h), .int (base l j), .int (rate l j)] :: P.map (pcD l)) [.va (tbD T), .va PD, .va (.int q), .va GD, .va (.int reach), s5, s6, s7, s8, s9] = X := fun X hX => by
            rw [← hX]
            simp [loopS, b_first_gap_1, c1, g1, kd, g2, hbr]
          rcases ih with ⟨i1, i2⟩ | ⟨r', t5, t6, t7, t8, t9, i1, i2, i3, i4⟩
          · exact .inl ⟨step _ i1, i2⟩
          · exact .inr ⟨r', t5, t6, t7, t8, t9, i1, i2, i3, step _ i4⟩
    · have ih := gap_loop hg hT hq PD GD P (pre ++ [(j, lo, hi)]) reach (.va (.int (j : Int))) (.va (.int lo)) (.va (capD hi)) (.va (.int (base l j))) (.va (.int (rate l j))) hs' h0 h1 (fun j' lo' hi' k1 k2 k3 => by
        rcases List.mem_append.mp k1 with k1 | k1
        · exact h2 j' lo' hi' k1 k2 k3
        · have k1 := List.mem_singleton.mp k1
          injection k1 with a b
          subst a
          exact absurd ⟨k2, k3⟩ hc)
      have step : ∀ X, loopS (tgT [(tgN 5), (tgN 6), (tgN 7), (tgN 8), (tgN 9)]) b_first_gap_1 (P.map (pcD l)) [.va (tbD T), .va PD, .va (.int q), .va GD, .va (.int reach), .va (.int (j : Int)), .va (.int lo), .va (capD hi), .va (.int (base l j)), .va (.int (rate l j))] = X → loopS (tgT [(tgN 5), (tgN 6), (tgN 7), (tgN 8), (tgN 9)]) b_first_gap_1 (.tuple [.int (j : Int), .int lo, capD hi, .int (base l j), .int (rate l j)] :: P.map (pcD l)) [.va (tbD T), .va PD, .va (.int q), .va GD, .va (.int reach), s5, s6, s7, s8, s9] = X := fun X hX => by
        rw [← hX]
        by_cases c1 : 0 < j
        · obtain ⟨b, hb, g1, g2⟩ := key_test hT (j := j) (by omega) (by omega) q
          have bf : b = false := by
            cases b with
            | true => exact absurd ⟨c1, hb.mp rfl⟩ hc
            | false => rfl
          subst bf
          have kd := kD_dD (T.getD j [])
          generalize dD (T.getD j []) = DJ at *
          simp [loopS, b_first_gap_1, c1, g1, kd, g2]
        · simp [loopS, b_first_gap_1, c1]
      rcases ih with ⟨i1, i2⟩ | ⟨r', t5, t6, t7, t8, t9, i1, i2, i3, i4⟩
      · exact .inl ⟨step _ i1, i2⟩
      · exact .inr ⟨r', t5, t6, t7, t8, t9, i1, i2, i3, step _ i4⟩
def Gap (l : List Per) (q : Int) (g r : Option Int) : Prop := match r with
  | none => ∀ e, 0 ≤ e → below g e → Fst l e q
  | some e => 0 ≤ e ∧ (e = 0 ∨ below g e) ∧ ¬ Fst l e q ∧ ∀ e', 0 ≤ e' → e' < e → Fst l e' q
theorem gap_ok {l : List Per} (hg : Gds l) (hp : l ≠ []) {T : List (List (Int × List Int))} (hT : Tab l T l.length) (q : Int) (g : Option Int) (h0 : ∀ x, g = some x → 0 ≤ x) : ∃ r, Gap l q g r ∧ f_first_gap [tbD T, pcsD l, .int q, capD g] = .ok (capD r) := by
  have hpl := List.length_pos_iff.mpr hp
  obtain ⟨b, hb, g1, g2⟩ := key_test hT (j := l.length) (by omega) (Nat.le_refl _) q
  rw [List.take_length] at hb
  have hl := hT.len
  have ix : sIx (tbD T) (.int (-1)) = .ok (dD (T.getD l.length [])) := by
    have : T[T.length - 1]? = some (T.getD l.length []) := by rw [show T.length - 1 = l.length by omega, List.getD_eq_getElem?_getD, List.getElem?_eq_getElem (by omega)]; rfl
    have := ix_neg (ds := T.map dD) (k := 1) (d := dD (T.getD l.length [])) (Nat.le_refl _) (by rw [List.length_map]; omega) (by rw [List.length_map, List.getElem?_map, this]; rfl)
    exact this
  have ni : sDNotIn (.int q) (dD (T.getD l.length [])) = .ok (.bool (!b)) := by
    unfold dD at g2 ⊢
    rw [q_din] at g2
    rw [q_dnin]
    injection g2 with g2
    injection g2 with g2
    rw [g2]
  have kd := kD_dD (T.getD l.length [])
  rw [u_first_gap]
  unfold g_first_gap
  generalize dD (T.getD l.length []) = DN at *
  cases b with
  | false =>
    have nf : ¬ Fst l 0 q := fun h => by have := hb.mpr h; cases this
    refine ⟨some 0, ⟨Int.le_refl _, .inl rfl, nf, fun e a b => by omega⟩, ?_⟩
    simp [ix, kd, ni]
  | true =>
    have f0 := hb.mp rfl
    have hq : q ≤ dsum l := ((Fst_pfx hg hp q).mp f0).2.1
    have kp : kLst (pcsD l) = .ok ((pcs l).map (pcD l)) := rfl
    rcases gap_loop hg hT hq (pcsD l) (capD g) (pcs l) [] 0 .un .un .un .un .un rfl (Int.le_refl _) (fun e a b => by omega) (fun j lo hi k => by cases k) with ⟨i1, i2⟩ | ⟨r', t5, t6, t7, t8, t9, i1, i2, i3, i4⟩
    · refine ⟨none, fun e e0 _ => ?_, ?_⟩
      · by_cases z : e = 0
        · rw [z]; exact f0
        · exact i2 e (by omega)
      · generalize (pcs l).map (pcD l) = PL at *
        simp [ix, kd, ni, kp, i1]
    · generalize (pcs l).map (pcD l) = PL at *
      cases g with
      | none =>
        refine ⟨some (r' + 1), ⟨by omega, .inr (fun h z => by cases z), i3, fun e a b => ?_⟩, ?_⟩
        · by_cases z : e = 0
          · rw [z]; exact f0
          · exact i2 e (by omega) (by omega)
        · simp at i4
          simp [ix, kd, ni, kp, i4]
      | some G =>
        by_cases hG : G ≤ r'
        · refine ⟨none, fun e e0 e1 => ?_, ?_⟩
          · have := e1 G rfl
            by_cases z : e = 0
            · rw [z]; exact f0
            · exact i2 e (by omega) (by omega)
          · simp at i4
            simp [ix, kd, ni, kp, i4, hG]
        · refine ⟨some (r' + 1), ⟨by omega, .inr (fun h z => by cases z; omega), i3, fun e a b => ?_⟩, ?_⟩
          · by_cases z : e = 0
            · rw [z]; exact f0
            · exact i2 e (by omega) (by omega)
          · simp at i4
            simp [ix, kd, ni, kp, i4, hG]
end Lw

namespace Lw
open PySem Ct L2
def Safe (l : List Per) (q : Int) (cap : Option Int) : Prop := ∀ e, 0 ≤ e → Fo l e cap → Fst l e q
theorem Fo_below (l : List Per) (e : Int) (cap : Option Int) : Fo l e cap ↔ below (cap.map (gF l)) e := by
  cases cap with
  | none => exact ⟨(fun _ h z => by cases z), (fun _ => trivial)⟩
  | some c =>
    constructor
    · intro h k z
      cases z
      exact h
    · intro h
      exact h _ rfl
theorem gap_safe {l : List Per} {q : Int} {cap r : Option Int} (h : Gap l q (cap.map (gF l)) r) : r = none ↔ Safe l q cap := by
  cases r with
  | none =>
    refine ⟨fun _ e e0 hf => h e e0 ((Fo_below l e cap).mp hf), fun _ => rfl⟩
  | some e =>
    constructor
    · intro z; cases z
    · intro hs
      obtain ⟨h1, h2, h3, _⟩ := h
      exfalso
      refine h3 (hs e h1 ?_)
      rcases h2 with rfl | h2
      · cases cap with
        | none => exact trivial
        | some c => exact gF_nn l c
      · exact (Fo_below l e cap).mpr h2
theorem cap_nn (l : List Per) (cap : Option Int) : ∀ x, cap.map (gF l) = some x → 0 ≤ x := by
  intro x hx
  cases cap with
  | none => cases hx
  | some c => cases hx; exact gF_nn l c
theorem last_keys {l : List Per} {T : List (List (Int × List Int))} (hT : Tab l T l.length) : sIx (tbD T) (.int (-1)) = .ok (dD (T.getD l.length [])) := by
  have hl := hT.len
  have : T[T.length - 1]? = some (T.getD l.length []) := by rw [show T.length - 1 = l.length by omega, List.getD_eq_getElem?_getD, List.getElem?_eq_getElem (by omega)]; rfl
  exact ix_neg (ds := T.map dD) (k := 1) (d := dD (T.getD l.length [])) (Nat.le_refl _) (by rw [List.length_map]; omega) (by rw [List.length_map, List.getElem?_map, this]; rfl)
theorem keys_sorted (m : List (Int × List Int)) : kSortK (dD m) = .ok (intsL (sortI (m.map (·.1)))) := by
  unfold dD
  rw [q_kSortK]
  unfold pm
  rw [List.map_map]
  rfl
open Classical in
theorem safe_ok (l : List Per) (cap : Option Int) (hg : Gds l) (hl : l.length ≤ 400) (hp : l ≠ []) : ∃ qs : List Int, qs.Pairwise (· < ·) ∧ (∀ q, q ∈ qs ↔ Safe l q cap) ∧ f_safe_orders [rowsD l, capD cap] = .ok (intsL qs) := by
  have hpl := List.length_pos_iff.mpr hp
  obtain ⟨T, hT, e1⟩ := table_ok l hg hl
  have gr := greatest_cap l cap hg (by omega) hp
  have pc := pieces_ok l hg hl
  have lk := last_keys hT
  have hd := hT.at' l.length hpl (Nat.le_refl _)
  rw [List.take_length] at hd
  have ks := keys_sorted (T.getD l.length [])
  have kd := kD_dD (T.getD l.length [])
  have fw := hd.few (fun _ h => h) hg (Int.le_refl 0)
  have mem : ∀ q, q ∈ sortI ((T.getD l.length []).map (·.1)) ↔ Fst l 0 q := fun q => by rw [(sortI_perm _).mem_iff]; exact hd.key q
  have srt := sort_lt hd.nd
  have lnk : (sortI ((T.getD l.length []).map (·.1))).length ≤ l.length + 1 := by rw [(sortI_perm _).length_eq, List.length_map]; exact fw
  generalize dD (T.getD l.length []) = DN at *
  generalize sortI ((T.getD l.length []).map (·.1)) = K at *
  have cc : c_safe_orders_1 [.va (rowsD l), .va (capD cap), .va (capD (cap.map (gF l))), .va (tbD T), .va (pcsD l), .va (intsL K), .un] = .ok (intsL (K.filter fun q => decide (Safe l q cap))) := by
    unfold c_safe_orders_1
    refine comp_flt PyData.int PyData.int (fun q => decide (Safe l q cap)) K (by omega) (by simp) rfl fun q hq => ?_
    obtain ⟨r, h1, h2⟩ := gap_ok hg hp hT q (cap.map (gF l)) (cap_nn l cap)
    have h3 := gap_safe h1
    refine ⟨_, rfl, ?_, by simp [wipeR]⟩
    cases r with
    | none =>
      have : decide (Safe l q cap) = true := decide_eq_true (h3.mp rfl)
      rw [this]
      simp [wipeR, h2, sIsN]
    | some e =>
      have : decide (Safe l q cap) = false := decide_eq_false fun z => by have := h3.mpr z; cases this
      rw [this]
      simp [wipeR, h2, sIsN]
  refine ⟨K.filter fun q => decide (Safe l q cap), srt.filter _, fun q => ?_, ?_⟩
  · rw [List.mem_filter, mem]
    constructor
    · rintro ⟨_, b⟩; exact of_decide_eq_true b
    · intro h
      refine ⟨h 0 (Int.le_refl _) ?_, decide_eq_true h⟩
      cases cap with
      | none => exact trivial
      | some c => exact gF_nn l c
  · rw [u_safe_orders]
    unfold g_safe_orders
    generalize intsL (K.filter fun q => decide (Safe l q cap)) = R at *
    simp [gr, e1, pc, lk, kd, ks, cc]
end Lw

namespace Lw
open PySem Ct L2
def addS (a : Int) (F : List Pc) (s : Nat) : List Pc := match F.getLast? with
  | some (j, lo, _) => if j = s then F.dropLast ++ [(s, lo, some a)] else F ++ [(s, a, some a)]
  | none => [(s, a, some a)]
theorem addS_nil (a : Int) (s : Nat) : addS a [] s = [(s, a, some a)] := rfl
theorem addS_snoc (a : Int) (G : List Pc) (j : Nat) (lo : Int) (hi : Option Int) (s : Nat) : addS a (G ++ [(j, lo, hi)]) s = if j = s then G ++ [(s, lo, some a)] else G ++ [(j, lo, hi)] ++ [(s, a, some a)] := by
  unfold addS
  rw [List.getLast?_concat, List.dropLast_concat]
abbrev Srt (F : List Pc) : Prop := F.Pairwise fun a b => a.1 < b.1
theorem Srt.snoc {F : List Pc} (h : Srt F) {p : Pc} (hp : ∀ x ∈ F, x.1 < p.1) : Srt (F ++ [p]) := List.pairwise_append.mpr ⟨h, by simp, fun x hx y hy => by rw [List.mem_singleton.mp hy]; exact hp x hx⟩
theorem Srt.uniq {F : List Pc} (h : Srt F) {j : Nat} {lo lo' : Int} {hi hi' : Option Int} (h1 : (j, lo, hi) ∈ F) (h2 : (j, lo', hi') ∈ F) : lo = lo' ∧ hi = hi' := by
  induction F with
  | nil => cases h1
  | cons x F ih =>
    rw [Srt, List.pairwise_cons] at h
    rcases List.mem_cons.mp h1 with a | a <;> rcases List.mem_cons.mp h2 with b | b
    · rw [← a] at b
      injection b with _ b
      injection b with b c
      exact ⟨b.symm, c.symm⟩
    · have := h.1 _ b; rw [← a] at this; exact absurd this (Nat.lt_irrefl j)
    · have := h.1 _ a; rw [← b] at this; exact absurd this (Nat.lt_irrefl j)
    · exact ih h.2 a b
theorem addS_spec (a : Int) {F : List Pc} (h : Srt F) {s : Nat} (hs : ∀ p ∈ F, p.1 ≤ s) : Srt (addS a F s) ∧ (∃ G lo, addS a F s = G ++ [(s, lo, some a)]) ∧ ∀ j lo hi, (j, lo, hi) ∈ addS a F s ↔ (j ≠ s ∧ (j, lo, hi) ∈ F) ∨ (j = s ∧ hi = some a ∧ ((∃ k, (j, lo, k) ∈ F) ∨ (lo = a ∧ ∀ lo' k, (j, lo', k) ∉ F))) := by
  rcases F.eq_nil_or_concat with rfl | ⟨G, ⟨j0, lo0, hi0⟩, rfl⟩
  · rw [addS_nil]
    refine ⟨by simp, ⟨[], a, rfl⟩, fun j lo hi => ?_⟩
    rw [List.mem_singleton]
    constructor
    · intro e
      injection e with e1 e2
      injection e2 with e2 e3
      exact .inr ⟨e1, e3, .inr ⟨e2, fun _ _ h => by cases h⟩⟩
    · rintro (⟨_, h⟩ | ⟨rfl, rfl, (⟨k, h⟩ | ⟨rfl, _⟩)⟩)
      · cases h
      · cases h
      · rfl
  · rw [List.concat_eq_append] at h hs ⊢
    rw [addS_snoc]
    have hp := h
    rw [Srt, List.pairwise_append] at hp
    obtain ⟨hG, _, hlt⟩ := hp
    have hlt' : ∀ x ∈ G, x.1 < j0 := fun x hx => hlt x hx _ (List.mem_singleton.mpr rfl)
    have hj0 : j0 ≤ s := hs _ (List.mem_append.mpr (.inr (List.mem_singleton.mpr rfl)))
    by_cases hc : j0 = s
    · subst hc
      rw [if_pos rfl]
      refine ⟨Srt.snoc hG hlt', ⟨G, lo0, rfl⟩, fun j lo hi => ?_⟩
      rw [List.mem_append, List.mem_append, List.mem_singleton, List.mem_singleton]
      constructor
      · rintro (h1 | h1)
        · have := hlt' _ h1
          exact .inl ⟨fun z => by dsimp only at this; omega, .inl h1⟩
        · injection h1 with e1 e2
          injection e2 with e2 e3
          subst e1; subst e2
          exact .inr ⟨rfl, e3, .inl ⟨hi0, List.mem_append.mpr (.inr (List.mem_singleton.mpr rfl))⟩⟩
      · rintro (⟨h1, h2 | h2⟩ | ⟨rfl, rfl, (⟨k, h2⟩ | ⟨rfl, h2⟩)⟩)
        · exact .inl h2
        · injection h2 with e1 _
          exact absurd e1 h1
        · have := Srt.uniq h h2 (List.mem_append.mpr (.inr (List.mem_singleton.mpr rfl)))
          rw [this.1]
          exact .inr rfl
        · exact absurd (List.mem_append.mpr (.inr (List.mem_singleton.mpr rfl))) (h2 lo0 hi0)
    · rw [if_neg hc]
      have hls : ∀ x ∈ G ++ [(j0, lo0, hi0)], x.1 < s := fun x hx => by
        rcases List.mem_append.mp hx with hx | hx
        · have := hlt' x hx; omega
        · rw [List.mem_singleton.mp hx]; show j0 < s; omega
      refine ⟨Srt.snoc h hls, ⟨_, a, rfl⟩, fun j lo hi => ?_⟩
      rw [List.mem_append, List.mem_singleton]
      constructor
      · rintro (h1 | h1)
        · have := hls _ h1
          exact .inl ⟨fun z => by dsimp only at this; omega, h1⟩
        · injection h1 with e1 e2
          injection e2 with e2 e3
          subst e1
          exact .inr ⟨rfl, e3, .inr ⟨e2, fun lo' k hm => by have := hls _ hm; dsimp only at this; omega⟩⟩
      · rintro (⟨h1, h2⟩ | ⟨rfl, rfl, (⟨k, h2⟩ | ⟨rfl, h2⟩)⟩)
        · exact .inl h2
        · have := hls _ h2
          dsimp only at this
          omega
        · exact .inr rfl
def addAll (a : Int) (F : List Pc) (ss : List Nat) : List Pc := ss.foldl (addS a) F
theorem addAll_spec (a : Int) : ∀ (ss : List Nat) (F : List Pc), Srt F → ss.Pairwise (· < ·) → (∀ p ∈ F, ∀ s ∈ ss, p.1 ≤ s) → Srt (addAll a F ss) ∧ (∀ z, ss.getLast? = some z → ∃ G lo, addAll a F ss = G ++ [(z, lo, some a)]) ∧ ∀ j lo hi, (j, lo, hi) ∈ addAll a F ss ↔ (j ∉ ss ∧ (j, lo, hi) ∈ F) ∨ (j ∈ ss ∧ hi = some a ∧ ((∃ k, (j, lo, k) ∈ F) ∨ (lo = a ∧ ∀ lo' k, (j, lo', k) ∉ F)))
  | [], F, h, _, _ => ⟨h, (fun z hz => by cases hz), (fun j lo hi => by simp [addAll])⟩
  | s :: ss, F, h, hp, hs => by
    rw [List.pairwise_cons] at hp
    obtain ⟨a1, a2, a3⟩ := addS_spec a h fun p hpm => hs p hpm s List.mem_cons_self
    have hle : ∀ p ∈ addS a F s, ∀ t ∈ ss, p.1 ≤ t := fun p hpm t ht => by
      obtain ⟨j, lo, hi⟩ := p
      have hst := hp.1 t ht
      rcases (a3 j lo hi).mp hpm with ⟨_, h1⟩ | ⟨rfl, _⟩
      · exact hs _ h1 t (List.mem_cons_of_mem _ ht)
      · show j ≤ t; omega
    obtain ⟨b1, b2, b3⟩ := addAll_spec a ss (addS a F s) a1 hp.2 hle
    have ex : addAll a F (s :: ss) = addAll a (addS a F s) ss := rfl
    rw [ex]
    refine ⟨b1, fun z hz => ?_, fun j lo hi => ?_⟩
    · cases ss with
      | nil =>
        have : z = s := by simpa using hz.symm
        subst this
        exact a2
      | cons t ss => exact b2 z (by rw [List.getLast?_cons_cons] at hz; exact hz)
    · rw [b3 j lo hi]
      have hns : ∀ t ∈ ss, t ≠ s := fun t ht z => by have := hp.1 t ht; omega
      constructor
      · rintro (⟨h1, h2⟩ | ⟨h1, h2, h3⟩)
        · rcases (a3 j lo hi).mp h2 with ⟨k1, k2⟩ | ⟨k1, k2, k3⟩
          · exact .inl ⟨fun z => by rcases List.mem_cons.mp z with z | z; exact k1 z; exact h1 z, k2⟩
          · exact .inr ⟨by rw [k1]; exact List.mem_cons_self, k2, k3⟩
        · have js : j ≠ s := hns j h1
          refine .inr ⟨List.mem_cons_of_mem _ h1, h2, ?_⟩
          rcases h3 with ⟨k, h3⟩ | ⟨h3, h4⟩
          · rcases (a3 j lo k).mp h3 with ⟨_, k2⟩ | ⟨k1, _⟩
            · exact .inl ⟨k, k2⟩
            · exact absurd k1 js
          · exact .inr ⟨h3, fun lo' k hm => h4 lo' k ((a3 j lo' k).mpr (.inl ⟨js, hm⟩))⟩
      · rintro (⟨h1, h2⟩ | ⟨h1, h2, h3⟩)
        · refine .inl ⟨fun z => h1 (List.mem_cons_of_mem _ z), (a3 j lo hi).mpr (.inl ⟨fun z => h1 (by rw [z]; exact List.mem_cons_self), h2⟩)⟩
        · rcases List.mem_cons.mp h1 with rfl | h1
          · exact .inl ⟨fun z => hns j z rfl, (a3 j lo hi).mpr (.inr ⟨rfl, h2, h3⟩)⟩
          · have js : j ≠ s := hns j h1
            refine .inr ⟨h1, h2, ?_⟩
            rcases h3 with ⟨k, h3⟩ | ⟨h3, h4⟩
            · exact .inl ⟨k, (a3 j lo k).mpr (.inl ⟨js, h3⟩)⟩
            · refine .inr ⟨h3, fun lo' k hm => ?_⟩
              rcases (a3 j lo' k).mp hm with ⟨_, k2⟩ | ⟨k1, _⟩
              · exact h4 lo' k k2
              · exact js k1
end Lw

namespace Lw
open PySem Ct L2
abbrev Vn (l : List Per) (j : Nat) (e : Int) : Int := V l l.length j e
structure PInv (l : List Per) (a : Int) (F : List Pc) : Prop where
  a1 : 1 ≤ a
  srt : Srt F
  rng : ∀ j lo hi, (j, lo, hi) ∈ F → j < l.length ∧ 1 ≤ lo ∧ ∃ h, hi = some h ∧ lo ≤ h ∧ h < a
  cov : ∀ j, j < l.length → ∀ e, 1 ≤ e → e < a → (Vn l j e = LC l e ↔ ∃ lo h, (j, lo, some h) ∈ F ∧ lo ≤ e ∧ e ≤ h)
  tail : (F = [] ∧ a = 1) ∨ ∃ G js lo, F = G ++ [(js, lo, some (a - 1))] ∧ (∀ i, i < js → ∀ e, a ≤ e → Vn l js e < Vn l i e) ∧ ∃ k, js < k ∧ k < l.length ∧ Vn l k a ≤ Vn l js a
def sts (l : List Per) (a : Int) : List Nat := (List.range l.length).filter fun j => decide (Vn l j a = LC l a)
theorem sts_mem {l : List Per} {a : Int} {j : Nat} : j ∈ sts l a ↔ j < l.length ∧ Vn l j a = LC l a := by
  unfold sts
  rw [List.mem_filter, List.mem_range]
  exact ⟨fun ⟨h1, h2⟩ => ⟨h1, of_decide_eq_true h2⟩, fun ⟨h1, h2⟩ => ⟨h1, decide_eq_true h2⟩⟩
theorem sts_pw (l : List Per) (a : Int) : (sts l a).Pairwise (· < ·) := (List.pairwise_lt_range (n := l.length)).filter _
theorem sts_last {l : List Per} (hp : l ≠ []) {a : Int} (ha : 1 ≤ a) : ∃ z, (sts l a).getLast? = some z ∧ z < l.length ∧ Vn l z a = LC l a ∧ (∀ j, j ∈ sts l a → j ≤ z) := by
  obtain ⟨j, j1, j2⟩ := LC_at (l := l) (e := a) (List.length_pos_iff.mpr hp) (by omega)
  have hm : j ∈ sts l a := sts_mem.mpr ⟨j1, j2.symm⟩
  have hpw := sts_pw l a
  rcases (sts l a).eq_nil_or_concat with h | ⟨S, z, h⟩
  · rw [h] at hm; cases hm
  · rw [List.concat_eq_append] at h
    have hz : z ∈ sts l a := by rw [h]; exact List.mem_append.mpr (.inr (List.mem_singleton.mpr rfl))
    obtain ⟨z1, z2⟩ := sts_mem.mp hz
    refine ⟨z, by rw [h, List.getLast?_concat], z1, z2, fun i hi => ?_⟩
    rw [h] at hi hpw
    rcases List.mem_append.mp hi with hi | hi
    · have := (List.pairwise_append.mp hpw).2.2 i hi z (List.mem_singleton.mpr rfl)
      omega
    · rw [List.mem_singleton.mp hi]; exact Nat.le_refl _
theorem steeper {l : List Per} (hg : Gds l) {i j : Nat} (h : i < j) (hj : j < l.length) {a e : Int} (ha : Vn l j a ≤ Vn l i a) (he : a < e) : Vn l j e < Vn l i e := by
  have rd := rate_dec hg h (by omega)
  unfold Vn at *
  rw [line_at, line_at] at *
  have := Int.mul_le_mul_of_nonneg_left (show 1 ≤ e - a by omega) (show 0 ≤ rate l i - rate l j by omega)
  have g1 : (rate l i - rate l j) * (e - a) = rate l i * e - rate l i * a - (rate l j * e - rate l j * a) := by
    rw [Int.sub_mul, Int.mul_sub, Int.mul_sub]
  omega
structure PMid (l : List Per) (a : Int) (F F1 : List Pc) (z : Nat) : Prop where
  srt : Srt F1
  last : ∃ G lo, F1 = G ++ [(z, lo, some a)]
  mem : ∀ j lo hi, (j, lo, hi) ∈ F1 ↔ (j ∉ sts l a ∧ (j, lo, hi) ∈ F) ∨ (j ∈ sts l a ∧ hi = some a ∧ ((∃ k, (j, lo, k) ∈ F) ∨ (lo = a ∧ ∀ lo' k, (j, lo', k) ∉ F)))
theorem PInv.before {l : List Per} {a : Int} {F : List Pc} (hi : PInv l a F) {j : Nat} {lo : Int} {h : Option Int} (hm : (j, lo, h) ∈ F) {s : Nat} (hs : s ∈ sts l a) : j ≤ s := by
  rcases hi.tail with ⟨rfl, _⟩ | ⟨G, js, lo', rfl, t1, k, k1, k2, k3⟩
  · cases hm
  · have hjs : j ≤ js := by
      have := hi.srt
      rw [Srt, List.pairwise_append] at this
      rcases List.mem_append.mp hm with hm | hm
      · have := this.2.2 _ hm _ (List.mem_singleton.mpr rfl); dsimp only at this; omega
      · have := List.mem_singleton.mp hm
        injection this with e _
        omega
    obtain ⟨s1, s2⟩ := sts_mem.mp hs
    by_cases hc : s < js
    · have h1 := t1 s hc a (Int.le_refl _)
      have hjl : js < l.length := by omega
      have h2 : LC l a ≤ Vn l js a := by
        have := lmin_map_le (f := fun j => V l l.length j a) hjl
        have ha := hi.a1
        rw [LC_pos (by omega)]
        exact this
      omega
    · omega
theorem mid_ok {l : List Per} (hp : l ≠ []) {a : Int} {F : List Pc} (h : PInv l a F) {z : Nat} (hz : (sts l a).getLast? = some z) : PMid l a F (addAll a F (sts l a)) z := by
  obtain ⟨s1, s2, s3⟩ := addAll_spec a (sts l a) F h.srt (sts_pw l a) fun p hpm s hs => h.before (j := p.1) (lo := p.2.1) (h := p.2.2) hpm hs
  exact ⟨s1, s2 z hz, s3⟩
theorem set_mem {G : List Pc} {z : Nat} {lo a : Int} {hi : Option Int} (hs : Srt (G ++ [(z, lo, some a)])) (j : Nat) (lo' : Int) (h' : Option Int) : (j, lo', h') ∈ G ++ [(z, lo, hi)] ↔ (j ≠ z ∧ (j, lo', h') ∈ G ++ [(z, lo, some a)]) ∨ (j = z ∧ lo' = lo ∧ h' = hi) := by
  rw [Srt, List.pairwise_append] at hs
  rw [List.mem_append, List.mem_append, List.mem_singleton, List.mem_singleton]
  constructor
  · rintro (h | h)
    · have := hs.2.2 _ h _ (List.mem_singleton.mpr rfl)
      exact .inl ⟨fun e => by dsimp only at this; omega, .inl h⟩
    · injection h with e1 e2
      injection e2 with e2 e3
      exact .inr ⟨e1, e2, e3⟩
  · rintro (⟨h1, h2 | h2⟩ | ⟨rfl, rfl, rfl⟩)
    · exact .inl h2
    · injection h2 with e1 _
      exact absurd e1 h1
    · exact .inr rfl
theorem set_srt {G : List Pc} {z : Nat} {lo a : Int} {hi : Option Int} (hs : Srt (G ++ [(z, lo, some a)])) : Srt (G ++ [(z, lo, hi)]) := by
  rw [Srt, List.pairwise_append] at hs ⊢
  exact ⟨hs.1, by simp, fun x hx y hy => by
    have h1 := hs.2.2 x hx (z, lo, some a) (List.mem_singleton.mpr rfl)
    rw [List.mem_singleton.mp hy]
    exact h1⟩
theorem cov_round {l : List Per} (hg : Gds l) (hp : l ≠ []) {a : Int} {F : List Pc} (h : PInv l a F) {z : Nat} (hz : z < l.length) (hv : Vn l z a = LC l a) (hmx : ∀ j, j ∈ sts l a → j ≤ z) {G : List Pc} {lo : Int} (hm : PMid l a F (G ++ [(z, lo, some a)]) z) (hi : Option Int) (ha : below hi a) (hf : ∀ e, a < e → below hi e → ∀ k, z < k → k < l.length → Vn l z e < Vn l k e) :
    ∀ j, j < l.length → ∀ e, 1 ≤ e → below hi e → (Vn l j e = LC l e ↔ ∃ lo' h', (j, lo', h') ∈ G ++ [(z, lo, hi)] ∧ lo' ≤ e ∧ below h' e) := by
  intro j hj e he hb
  have hsm := set_mem (hi := hi) hm.srt
  have zin : z ∈ sts l a := sts_mem.mpr ⟨hz, hv⟩
  have zm : (z, lo, some a) ∈ G ++ [(z, lo, some a)] := List.mem_append.mpr (.inr (List.mem_singleton.mpr rfl))
  have a1 := h.a1
  have zlo : (∃ k, (z, lo, k) ∈ F) ∨ (lo = a ∧ ∀ lo' k, (z, lo', k) ∉ F) := by
    rcases (hm.mem z lo (some a)).mp zm with ⟨h1, _⟩ | ⟨_, _, h3⟩
    · exact absurd zin h1
    · exact h3
  have zla : lo ≤ a := by
    rcases zlo with ⟨k, hk⟩ | ⟨h1, _⟩
    · obtain ⟨_, _, h', _, h1, h2⟩ := h.rng _ _ _ hk; omega
    · omega
  rcases Int.lt_trichotomy e a with hlt | rfl | hgt
  · -- ahead of a: as before
    rw [h.cov j hj e he hlt]
    constructor
    · rintro ⟨lo', h', k1, k2, k3⟩
      by_cases hjz : j = z
      · subst hjz
        rcases zlo with ⟨k, hk⟩ | ⟨_, h2⟩
        · have := h.srt.uniq hk k1
          exact ⟨lo, hi, (hsm j lo hi).mpr (.inr ⟨rfl, rfl, rfl⟩), by omega, hb⟩
        · exact absurd k1 (h2 _ _)
      · by_cases hs : j ∈ sts l a
        · refine ⟨lo', some a, (hsm _ _ _).mpr (.inl ⟨hjz, (hm.mem _ _ _).mpr (.inr ⟨hs, rfl, .inl ⟨_, k1⟩⟩)⟩), k2, fun x hx => by cases hx; omega⟩
        · exact ⟨lo', some h', (hsm _ _ _).mpr (.inl ⟨hjz, (hm.mem _ _ _).mpr (.inl ⟨hs, k1⟩)⟩), k2, fun x hx => by cases hx; exact k3⟩
    · rintro ⟨lo', h', k1, k2, k3⟩
      rcases (hsm _ _ _).mp k1 with ⟨hjz, k1⟩ | ⟨rfl, rfl, rfl⟩
      · rcases (hm.mem _ _ _).mp k1 with ⟨_, k4⟩ | ⟨_, rfl, k4⟩
        · obtain ⟨_, _, x, rfl, _, _⟩ := h.rng _ _ _ k4
          exact ⟨lo', x, k4, k2, k3 x rfl⟩
        · rcases k4 with ⟨k, k4⟩ | ⟨rfl, _⟩
          · -- its old upper end: it is the last one's, a - 1
            obtain ⟨_, _, x, rfl, x1, x2⟩ := h.rng _ _ _ k4
            rcases h.tail with ⟨rfl, _⟩ | ⟨G', js, lj, rfl, t1, t2⟩
            · cases k4
            · have hin : j ∈ sts l a := by
                rcases (hm.mem _ _ _).mp k1 with ⟨_, k5⟩ | ⟨k5, _⟩
                · exfalso
                  obtain ⟨_, _, y, hy, _, y2⟩ := h.rng _ _ _ k5
                  cases hy; omega
                · exact k5
              have hjs : js ≤ j := h.before (j := js) (List.mem_append.mpr (.inr (List.mem_singleton.mpr rfl))) hin
              have hs := h.srt
              rw [Srt, List.pairwise_append] at hs
              rcases List.mem_append.mp k4 with k6 | k6
              · have := hs.2.2 _ k6 _ (List.mem_singleton.mpr rfl)
                dsimp only at this
                omega
              · have k7 := List.mem_singleton.mp k6
                injection k7 with e1 e2
                injection e2 with e2 e3
                injection e3 with e3
                exact ⟨lo', x, k4, k2, by omega⟩
          · omega
      · rcases zlo with ⟨k, k4⟩ | ⟨h1, _⟩
        · obtain ⟨_, _, x, rfl, x1, x2⟩ := h.rng _ _ _ k4
          rcases h.tail with ⟨rfl, _⟩ | ⟨G', js, lj, rfl, t1, t2⟩
          · cases k4
          · have hjs : js ≤ j := h.before (j := js) (List.mem_append.mpr (.inr (List.mem_singleton.mpr rfl))) zin
            have hs := h.srt
            rw [Srt, List.pairwise_append] at hs
            rcases List.mem_append.mp k4 with k6 | k6
            · have := hs.2.2 _ k6 _ (List.mem_singleton.mpr rfl)
              dsimp only at this
              omega
            · have k7 := List.mem_singleton.mp k6
              injection k7 with e1 e2
              injection e2 with e2 e3
              injection e3 with e3
              exact ⟨lo', x, k4, k2, by omega⟩
        · omega
  · -- at a
    constructor
    · intro hve
      by_cases hjz : j = z
      · subst hjz; exact ⟨lo, hi, (hsm _ _ _).mpr (.inr ⟨rfl, rfl, rfl⟩), zla, ha⟩
      · have hs : j ∈ sts l e := sts_mem.mpr ⟨hj, hve⟩
        by_cases hF : ∃ lo' k, (j, lo', k) ∈ F
        · obtain ⟨lo', k, hk⟩ := hF
          obtain ⟨_, _, x, _, x1, x2⟩ := h.rng _ _ _ hk
          exact ⟨lo', some e, (hsm _ _ _).mpr (.inl ⟨hjz, (hm.mem _ _ _).mpr (.inr ⟨hs, rfl, .inl ⟨k, hk⟩⟩)⟩), by omega, fun y hy => by cases hy; exact Int.le_refl _⟩
        · exact ⟨e, some e, (hsm _ _ _).mpr (.inl ⟨hjz, (hm.mem _ _ _).mpr (.inr ⟨hs, rfl, .inr ⟨rfl, fun lo' k hm => hF ⟨lo', k, hm⟩⟩⟩)⟩), Int.le_refl _, fun y hy => by cases hy; exact Int.le_refl _⟩
    · rintro ⟨lo', h', k1, k2, k3⟩
      rcases (hsm _ _ _).mp k1 with ⟨hjz, k1⟩ | ⟨rfl, rfl, rfl⟩
      · rcases (hm.mem _ _ _).mp k1 with ⟨_, k4⟩ | ⟨k4, _⟩
        · obtain ⟨_, _, x, rfl, _, x2⟩ := h.rng _ _ _ k4
          have := k3 x rfl
          omega
        · exact (sts_mem.mp k4).2
      · exact hv
  · -- beyond a: z alone
    have hle : ∀ i, i < l.length → i ≠ z → Vn l z e < Vn l i e := fun i hil hne => by
      rcases Nat.lt_or_gt_of_ne hne with hlt | hgt'
      · exact steeper hg hlt hz (by rw [hv]; exact LC_le hg hil) hgt
      · exact hf e hgt hb i hgt' hil
    have hzv : Vn l z e = LC l e := by
      obtain ⟨i, i1, i2⟩ := LC_at (l := l) (e := e) (by omega) (by omega)
      by_cases hiz : i = z
      · rw [i2, hiz]
      · have := hle i i1 hiz
        have := LC_le hg (e := e) hz
        have : Vn l i e = V l l.length i e := rfl
        have : Vn l z e = V l l.length z e := rfl
        omega
    constructor
    · intro hve
      by_cases hjz : j = z
      · subst hjz; exact ⟨lo, hi, (hsm _ _ _).mpr (.inr ⟨rfl, rfl, rfl⟩), by omega, hb⟩
      · have := hle j hj hjz; omega
    · rintro ⟨lo', h', k1, k2, k3⟩
      rcases (hsm _ _ _).mp k1 with ⟨hjz, k1⟩ | ⟨rfl, rfl, rfl⟩
      · exfalso
        rcases (hm.mem _ _ _).mp k1 with ⟨_, k4⟩ | ⟨_, rfl, _⟩
        · obtain ⟨_, _, x, rfl, _, x2⟩ := h.rng _ _ _ k4
          have := k3 x rfl
          omega
        · have := k3 a rfl
          omega
      · exact hzv
end Lw

namespace Lw
open PySem Ct L2
def comes (l : List Per) (z k : Nat) : Int := -((base l z - base l k) / (rate l z - rate l k))
theorem comes_iff {l : List Per} (hg : Gds l) {z k : Nat} (h : z < k) (hk : k < l.length) (e : Int) : comes l z k ≤ e ↔ Vn l k e ≤ Vn l z e := by
  have rd := rate_dec hg h (by omega)
  unfold comes Vn
  rw [line_at, line_at]
  have h1 : -((base l z - base l k) / (rate l z - rate l k)) ≤ e ↔ -e ≤ (base l z - base l k) / (rate l z - rate l k) := by constructor <;> (intro; omega)
  rw [h1, Int.le_ediv_iff_mul_le (by omega)]
  have : -e * (rate l z - rate l k) = rate l k * e - rate l z * e := by grind
  rw [this]
  constructor <;> (intro; omega)
def nextA (l : List Per) (z : Nat) : Int := lmin ((List.range' (z + 1) (l.length - (z + 1))).map (comes l z))
theorem nextA_spec {l : List Per} {z : Nat} (hz : z + 1 < l.length) : (∀ k, z < k → k < l.length → nextA l z ≤ comes l z k) ∧ ∃ k, z < k ∧ k < l.length ∧ nextA l z = comes l z k := by
  unfold nextA
  constructor
  · intro k h1 h2
    exact lmin_le (List.mem_map.mpr ⟨k, List.mem_range'_1.mpr (by omega), rfl⟩)
  · have hm := lmin_mem (ns := (List.range' (z + 1) (l.length - (z + 1))).map (comes l z)) (by
      intro h
      have := congrArg List.length h
      rw [List.length_map, List.length_range', List.length_nil] at this
      omega)
    obtain ⟨k, k1, k2⟩ := List.mem_map.mp hm
    have := List.mem_range'_1.mp k1
    exact ⟨k, by omega, by omega, k2.symm⟩
section
variable {l : List Per} {a : Int} {F G : List Pc} {z : Nat} {lo : Int}
theorem next_gt (hg : Gds l) (h : PInv l a F) (hz : z + 1 < l.length) (hv : Vn l z a = LC l a) (hmx : ∀ j, j ∈ sts l a → j ≤ z) : a < nextA l z := by
  obtain ⟨k, k1, k2, k3⟩ := (nextA_spec hz).2
  rw [k3]
  by_cases hc : a < comes l z k
  · exact hc
  · exfalso
    have h1 := (comes_iff hg k1 k2 a).mp (by omega)
    have h2 : LC l a ≤ Vn l k a := LC_le hg k2
    have := hmx k (sts_mem.mpr ⟨k2, by omega⟩)
    omega
theorem mid_rng (h : PInv l a F) (hm : PMid l a F (G ++ [(z, lo, some a)]) z) {j : Nat} {lo' : Int} {h' : Option Int} (hx : (j, lo', h') ∈ G ++ [(z, lo, some a)]) : j < l.length ∧ 1 ≤ lo' ∧ ∃ x, h' = some x ∧ lo' ≤ x ∧ x ≤ a := by
  have a1 := h.a1
  rcases (hm.mem _ _ _).mp hx with ⟨_, k⟩ | ⟨k1, rfl, k⟩
  · obtain ⟨r1, r2, x, r3, r4, r5⟩ := h.rng _ _ _ k
    exact ⟨r1, r2, x, r3, r4, by omega⟩
  · refine ⟨(sts_mem.mp k1).1, ?_, a, rfl, ?_, Int.le_refl _⟩
    · rcases k with ⟨y, k⟩ | ⟨rfl, _⟩
      · exact (h.rng _ _ _ k).2.1
      · exact a1
    · rcases k with ⟨y, k⟩ | ⟨rfl, _⟩
      · obtain ⟨_, _, x, _, r4, r5⟩ := h.rng _ _ _ k; omega
      · exact Int.le_refl _
theorem next_ok (hg : Gds l) (hp : l ≠ []) (h : PInv l a F) (hz : z + 1 < l.length) (hv : Vn l z a = LC l a) (hmx : ∀ j, j ∈ sts l a → j ≤ z) (hm : PMid l a F (G ++ [(z, lo, some a)]) z) : PInv l (nextA l z) (G ++ [(z, lo, some (nextA l z - 1))]) := by
  have gt := next_gt hg h hz hv hmx
  obtain ⟨n1, k, k1, k2, k3⟩ := nextA_spec hz
  have a1 := h.a1
  have hsm := set_mem (hi := some (nextA l z - 1)) hm.srt
  have zr := mid_rng h hm (List.mem_append.mpr (.inr (List.mem_singleton.mpr rfl)))
  have rng : ∀ j lo' hi, (j, lo', hi) ∈ G ++ [(z, lo, some (nextA l z - 1))] → j < l.length ∧ 1 ≤ lo' ∧ ∃ h, hi = some h ∧ lo' ≤ h ∧ h < nextA l z := fun j lo' hi hx => by
    rcases (hsm _ _ _).mp hx with ⟨_, hx⟩ | ⟨rfl, rfl, rfl⟩
    · obtain ⟨r1, r2, x, r3, r4, r5⟩ := mid_rng h hm hx
      exact ⟨r1, r2, x, r3, r4, by omega⟩
    · obtain ⟨r1, r2, x, r3, r4, r5⟩ := zr
      injection r3 with r3
      exact ⟨r1, r2, _, rfl, by omega, by omega⟩
  refine ⟨by omega, set_srt hm.srt, rng, fun j hj e he hlt => ?_, .inr ⟨G, z, lo, rfl, fun i hi e hE => ?_, k, k1, k2, ?_⟩⟩
  · have c := cov_round hg hp h (by omega) hv hmx hm (some (nextA l z - 1)) (fun x hx => by cases hx; omega) (fun e' he' hb k' hk' hk'' => by
      have hb := hb _ rfl
      have h1 := n1 k' hk' hk''
      have h2 := comes_iff hg hk' hk'' e'
      have : ¬ comes l z k' ≤ e' := by omega
      have := mt h2.mpr this
      omega) j hj e he (fun x hx => by cases hx; omega)
    rw [c]
    constructor
    · rintro ⟨lo', h', q1, q2, q3⟩
      obtain ⟨_, _, x, rfl, _, _⟩ := rng _ _ _ q1
      exact ⟨lo', x, q1, q2, q3 x rfl⟩
    · rintro ⟨lo', x, q1, q2, q3⟩
      exact ⟨lo', some x, q1, q2, fun y hy => by cases hy; exact q3⟩
  · exact steeper hg hi (by omega) (by rw [hv]; exact LC_le hg (by omega)) (by omega)
  · exact (comes_iff hg k1 k2 _).mp (by omega)
theorem srt_ext : ∀ {A B : List Pc}, Srt A → Srt B → (∀ x, x ∈ A ↔ x ∈ B) → A = B
  | [], [], _, _, _ => rfl
  | [], y :: b, _, _, h => by have := (h y).mpr List.mem_cons_self; cases this
  | x :: a, [], _, _, h => by have := (h x).mp List.mem_cons_self; cases this
  | x :: a, y :: b, ha, hb, h => by
    rw [Srt, List.pairwise_cons] at ha hb
    have e : x = y := by
      rcases List.mem_cons.mp ((h x).mp List.mem_cons_self) with e | e
      · exact e
      · rcases List.mem_cons.mp ((h y).mpr List.mem_cons_self) with f | f
        · exact f.symm
        · have := ha.1 y f
          have := hb.1 x e
          omega
    subst e
    have t : a = b := srt_ext ha.2 hb.2 fun w => by
      constructor
      · intro hw
        rcases List.mem_cons.mp ((h w).mp (List.mem_cons_of_mem _ hw)) with e | e
        · have := ha.1 w hw; rw [e] at this; exact absurd this (Nat.lt_irrefl _)
        · exact e
      · intro hw
        rcases List.mem_cons.mp ((h w).mpr (List.mem_cons_of_mem _ hw)) with e | e
        · have := hb.1 w hw; rw [e] at this; exact absurd this (Nat.lt_irrefl _)
        · exact e
    rw [t]
theorem eq_pcs (hg : Gds l) {A : List Pc} (hs : Srt A) (hr : ∀ j lo hi, (j, lo, hi) ∈ A → j < l.length ∧ 1 ≤ lo ∧ below hi lo) (hc : ∀ j, j < l.length → ∀ e, 1 ≤ e → (Vn l j e = LC l e ↔ ∃ lo hi, (j, lo, hi) ∈ A ∧ lo ≤ e ∧ below hi e)) : A = pcs l := by
  have ps : Srt (pcs l) := pcA_pw _ 0
  have key : ∀ (A B : List Pc), Srt A → Srt B → (∀ j lo hi, (j, lo, hi) ∈ A → j < l.length ∧ 1 ≤ lo ∧ below hi lo) → (∀ j lo hi, (j, lo, hi) ∈ B → j < l.length ∧ 1 ≤ lo ∧ below hi lo) → (∀ j, j < l.length → ∀ e, 1 ≤ e → ((∃ lo hi, (j, lo, hi) ∈ A ∧ lo ≤ e ∧ below hi e) ↔ ∃ lo hi, (j, lo, hi) ∈ B ∧ lo ≤ e ∧ below hi e)) → ∀ x, x ∈ A → x ∈ B := by
    intro A B sA sB rA rB h x hx
    obtain ⟨j, lo, hi⟩ := x
    obtain ⟨r1, r2, r3⟩ := rA _ _ _ hx
    obtain ⟨lo2, hi2, b1, b2, b3⟩ := (h j r1 lo r2).mp ⟨lo, hi, hx, Int.le_refl _, r3⟩
    obtain ⟨_, q2, q3⟩ := rB _ _ _ b1
    obtain ⟨lo3, hi3, c1, c2, c3⟩ := (h j r1 lo2 q2).mpr ⟨lo2, hi2, b1, Int.le_refl _, q3⟩
    obtain ⟨e1, e2⟩ := sA.uniq hx c1
    have elo : lo = lo2 := by omega
    have eb : ∀ e, lo ≤ e → (below hi e ↔ below hi2 e) := fun e he => by
      constructor
      · intro hb
        obtain ⟨lo4, hi4, d1, d2, d3⟩ := (h j r1 e (by omega)).mp ⟨lo, hi, hx, he, hb⟩
        rw [(sB.uniq b1 d1).2]
        exact d3
      · intro hb
        obtain ⟨lo4, hi4, d1, d2, d3⟩ := (h j r1 e (by omega)).mpr ⟨lo2, hi2, b1, by omega, hb⟩
        rw [(sA.uniq hx d1).2]
        exact d3
    have ehi : hi = hi2 := by
      cases hi with
      | none =>
        cases hi2 with
        | none => rfl
        | some h2 =>
          have h1 := b3 h2 rfl
          have := (eb (h2 + 1) (by omega)).mp (fun y hy => by cases hy) h2 rfl
          omega
      | some h1 =>
        have g1 := r3 h1 rfl
        cases hi2 with
        | none =>
          have := (eb (h1 + 1) (by omega)).mpr (fun y hy => by cases hy) h1 rfl
          omega
        | some h2 =>
          have g2 := b3 h2 rfl
          have k1 := (eb h1 g1).mp (fun y hy => by cases hy; exact Int.le_refl _) h2 rfl
          have k2 := (eb h2 g2).mpr (fun y hy => by cases hy; exact Int.le_refl _) h1 rfl
          rw [show h1 = h2 by omega]
    rw [elo, ehi]
    exact b1
  have rp : ∀ j lo hi, (j, lo, hi) ∈ pcs l → j < l.length ∧ 1 ≤ lo ∧ below hi lo := fun j lo hi hx => by
    obtain ⟨a, b, _⟩ := pcs_lo hg hx
    exact ⟨pcs_lt hx, a, b⟩
  have hh : ∀ j, j < l.length → ∀ e, 1 ≤ e → ((∃ lo hi, (j, lo, hi) ∈ A ∧ lo ≤ e ∧ below hi e) ↔ ∃ lo hi, (j, lo, hi) ∈ pcs l ∧ lo ≤ e ∧ below hi e) := fun j hj e he => by rw [← hc j hj e he]; exact pcs_spec hg hj he
  exact srt_ext hs ps fun x => ⟨key A (pcs l) hs ps hr rp hh x, key (pcs l) A ps hs rp hr (fun j hj e he => (hh j hj e he).symm) x⟩
theorem end_ok (hg : Gds l) (hp : l ≠ []) (h : PInv l a F) (hz : z + 1 = l.length) (hv : Vn l z a = LC l a) (hmx : ∀ j, j ∈ sts l a → j ≤ z) (hm : PMid l a F (G ++ [(z, lo, some a)]) z) : G ++ [(z, lo, none)] = pcs l := by
  have hsm := set_mem (hi := none) hm.srt
  have zr := mid_rng h hm (List.mem_append.mpr (.inr (List.mem_singleton.mpr rfl)))
  refine eq_pcs hg (set_srt hm.srt) (fun j lo' hi hx => ?_) fun j hj e he => cov_round hg hp h (by omega) hv hmx hm none (fun x hx => by cases hx) (fun e' he' hb k' hk' hk'' => by omega) j hj e he (fun x hx => by cases hx)
  rcases (hsm _ _ _).mp hx with ⟨_, hx⟩ | ⟨rfl, rfl, rfl⟩
  · obtain ⟨r1, r2, x, rfl, r4, r5⟩ := mid_rng h hm hx
    exact ⟨r1, r2, fun y hy => by cases hy; exact r4⟩
  · obtain ⟨r1, r2, _⟩ := zr
    exact ⟨r1, r2, fun y hy => by cases hy⟩
end
end Lw

namespace Lw
open PySem Ct L2
def pieceL (p : Pc) : D := .list [.int p.1, .int p.2.1, capD p.2.2]
def psD (F : List Pc) : D := .list (F.map pieceL)
def psS (F : List Pc) : Sl := .ot (.r (.r .g)) (psD F)
theorem ixN_last {n : Nat} : ixN (n + 1) (-1) = some n := by
  unfold ixN
  rw [if_neg (by omega)]
  rw [if_pos (by omega)]
  congr 1
  omega
theorem ixN_2 : ixN 3 2 = some 2 := by rw [ixN_in (by omega) (by omega)]; rfl
theorem setP_last {fv : Rho → Rs D} {ρ : Rho} {G : List Pc} {j : Nat} {lo : Int} {hi h' : Option Int} (h1 : ρ[2]? = some (psS (G ++ [(j, lo, hi)]))) (h2 : fv ρ = .ok (capD h')) : fSetP 2 fv (fUn sNeg (fC (.int 1))) (fC (.int 2)) ρ = .nx (ρ.set 2 (psS (G ++ [(j, lo, h')]))) := by
  have e0 : (G ++ [(j, lo, hi)]).map pieceL = G.map pieceL ++ [pieceL (j, lo, hi)] := by rw [List.map_append]; rfl
  have e1 : ((G.map pieceL ++ [pieceL (j, lo, hi)]).length) = G.length + 1 := by simp
  have e2 : (G.map pieceL ++ [pieceL (j, lo, hi)])[G.length]? = some (pieceL (j, lo, hi)) := by
    rw [List.getElem?_append_right (by simp)]
    simp
  have e3 : (G.map pieceL ++ [pieceL (j, lo, hi)]).set G.length (.list [.int (j : Int), .int lo, capD h']) = (G ++ [(j, lo, h')]).map pieceL := by
    rw [List.map_append, List.set_append_right _ _ (by simp)]
    simp
    rfl
  rw [q_fSetP, h2, q_out1, h1]
  unfold psS psD
  rw [e0]
  show (fUn sNeg (fC (.int 1)) ρ).out ρ _ = _
  rw [q_fUn]
  show (match ixN (G.map pieceL ++ [pieceL (j, lo, hi)]).length (-1) with | some m => _ | none => _) = _
  rw [e1, ixN_last]
  show (match (G.map pieceL ++ [pieceL (j, lo, hi)])[G.length]? with | some (.list es) => _ | _ => _) = _
  rw [e2]
  show (if (Sh.r (.r .g)).node = true ∧ (Sh.r (.r .g)).at' G.length = .r .g then (Rs.ok (PyData.int 2)).out ρ _ else _) = _
  rw [if_pos ⟨rfl, rfl⟩]
  rw [q_out1]
  dsimp only
  rw [show ixN [PyData.int (j : Int), PyData.int lo, capD hi].length 2 = some 2 from ixN_2]
  dsimp only
  exact congrArg (fun x => Out.nx (ρ.set 2 (.ot (.r (.r .g)) (.list x)))) e3
theorem ps_last (G : List Pc) (p : Pc) : sIx (psD (G ++ [p])) (.int (-1)) = .ok (pieceL p) := by
  have := ix_neg (ds := (G ++ [p]).map pieceL) (k := 1) (d := pieceL p) (Nat.le_refl _) (by simp) (by simp)
  exact this
theorem add_loop (a : Int) (A B s4 s5 s6 s7 s9 s10 s11 s12 : Sl) : ∀ (ss : List Nat) (F : List Pc) (s8 : Sl), F.length + ss.length ≤ 900 → ∃ t8, loopS (tgN 8) b_law_pieces_1 (ss.map fun k : Nat => PyData.int (k : Int)) [A, B, psS F, .va (.int a), s4, s5, s6, s7, s8, s9, s10, s11, s12] = .nx [A, B, psS (addAll a F ss), .va (.int a), s4, s5, s6, s7, t8, s9, s10, s11, s12]
  | [], F, s8, _ => ⟨s8, by simp [loopS, addAll]⟩
  | s :: ss, F, s8, hl => by
    rw [List.length_cons] at hl
    have ex : addAll a F (s :: ss) = addAll a (addS a F s) ss := rfl
    have al : (addS a F s).length ≤ F.length + 1 := by
      rcases F.eq_nil_or_concat with rfl | ⟨G, ⟨j0, lo0, hi0⟩, rfl⟩
      · rw [addS_nil]; simp
      · rw [List.concat_eq_append, addS_snoc]
        split <;> simp
    obtain ⟨t8, e⟩ := add_loop a A B s4 s5 s6 s7 s9 s10 s11 s12 ss (addS a F s) (.va (.int (s : Int))) (by omega)
    refine ⟨t8, ?_⟩
    rw [ex, ← e, List.map_cons]
    have bd : b_law_pieces_1 [A, B, psS F, .va (.int a), s4, s5, s6, s7, .va (.int (s : Int)), s9, s10, s11, s12] = .nx [A, B, psS (addS a F s), .va (.int a), s4, s5, s6, s7, .va (.int (s : Int)), s9, s10, s11, s12] := by
      have ap : ∀ F : List Pc, F.length ≤ 900 → fAppW 2 (.r .g) (fLst (aCons (fV 8) (aCons (fV 3) (aCons (fV 3) aNil)))) [A, B, psS F, .va (.int a), s4, s5, s6, s7, .va (.int (s : Int)), s9, s10, s11, s12] = .nx [A, B, psS (F ++ [(s, a, some a)]), .va (.int a), s4, s5, s6, s7, .va (.int (s : Int)), s9, s10, s11, s12] := fun F hF => by
        have hz : (F.map pieceL).length < sizeLine := lt_size (by rw [List.length_map]; omega)
        have e1 : (F ++ [(s, a, some a)]).map pieceL = F.map pieceL ++ [.list [.int (s : Int), .int a, .int a]] := by rw [List.map_append]; rfl
        unfold psS psD
        rw [e1]
        generalize F.map pieceL = FL at *
        simp [hz]
      rcases F.eq_nil_or_concat with rfl | ⟨G, ⟨j0, lo0, hi0⟩, rfl⟩
      · rw [addS_nil]
        have := ap [] (by simp)
        rw [List.nil_append] at this
        unfold b_law_pieces_1
        have l0 : sLen (psD []) = .ok (.int 0) := rfl
        unfold psS at *
        simp [l0]
        simpa using this
      · rw [List.concat_eq_append] at hl ⊢
        rw [addS_snoc]
        have ln : sLen (psD (G ++ [(j0, lo0, hi0)])) = .ok (.int ((G.length + 1 : Nat) : Int)) := by
          show Rs.ok (PyData.int (((G ++ [(j0, lo0, hi0)]).map pieceL).length : Int)) = _
          simp
        have lp : (0 : Int) < ((G.length + 1 : Nat) : Int) := by omega
        have la := ps_last G (j0, lo0, hi0)
        have p0 : sIx (pieceL (j0, lo0, hi0)) (.int 0) = .ok (.int (j0 : Int)) := ix_list (by omega) rfl
        have sp := setP_last (fv := fV 3) (ρ := [A, B, psS (G ++ [(j0, lo0, hi0)]), .va (.int a), s4, s5, s6, s7, .va (.int (s : Int)), s9, s10, s11, s12]) (G := G) (j := j0) (lo := lo0) (hi := hi0) (h' := some a) rfl rfl
        have ap := ap (G ++ [(j0, lo0, hi0)]) (by omega)
        unfold b_law_pieces_1
        by_cases hj : j0 = s
        · subst hj
          rw [if_pos rfl]
          generalize hX : psS (G ++ [(j0, lo0, some a)]) = X at *
          unfold psS at *
          generalize psD (G ++ [(j0, lo0, hi0)]) = PD at *
          generalize ((G.length + 1 : Nat) : Int) = z at *
          simp [ln, lp, la, p0]
          simpa using sp
        · rw [if_neg hj]
          have hj' : ¬ (j0 : Int) = (s : Int) := by omega
          generalize hX : psS (G ++ [(j0, lo0, hi0)] ++ [(s, a, some a)]) = X at *
          unfold psS at *
          generalize psD (G ++ [(j0, lo0, hi0)]) = PD at *
          generalize ((G.length + 1 : Nat) : Int) = z at *
          simp [ln, lp, la, p0, hj']
          simpa using ap
    simp [loopS, bd]
end Lw

namespace Lw
open PySem Ct L2
theorem srt_len {l : List Per} {F : List Pc} (hs : Srt F) (hr : ∀ p ∈ F, p.1 < l.length) : F.length ≤ l.length := by
  have := nodup_le (F.map (·.1)) (List.range l.length) (by
    rw [List.Nodup, List.pairwise_map]
    exact hs.imp fun h => by omega) fun x hx => by
    obtain ⟨p, p1, rfl⟩ := List.mem_map.mp hx
    exact List.mem_range.mpr (hr p p1)
  simpa using this
theorem last_gt {l : List Per} {a : Int} {F : List Pc} (hg : Gds l) (h : PInv l a F) {z : Nat} (hz : z ∈ sts l a) (hmx : ∀ j, j ∈ sts l a → j ≤ z) {p : Pc} (hp : p ∈ F) : p.1 < z := by
  obtain ⟨j, lo, hi⟩ := p
  rcases h.tail with ⟨rfl, _⟩ | ⟨G, js, lj, rfl, t1, k, k1, k2, k3⟩
  · cases hp
  · have hjs : j ≤ js := by
      have := h.srt
      rw [Srt, List.pairwise_append] at this
      rcases List.mem_append.mp hp with hm | hm
      · have := this.2.2 _ hm _ (List.mem_singleton.mpr rfl); dsimp only at this; omega
      · have := List.mem_singleton.mp hm
        injection this with e _
        omega
    have hb : js ≤ z := h.before (j := js) (List.mem_append.mpr (.inr (List.mem_singleton.mpr rfl))) hz
    show j < z
    by_cases hc : js < z
    · omega
    · exfalso
      have e : z = js := by omega
      subst e
      have hv := (sts_mem.mp hz).2
      have h1 : LC l a ≤ Vn l k a := LC_le hg k2
      have := hmx k (sts_mem.mpr ⟨k2, by omega⟩)
      omega
theorem comes_bd {l : List Per} (hg : Gds l) (hs : Sml l) (hl : l.length ≤ 64) {z k : Nat} (h : z < k) (hk : k < l.length) : comes l z k ≤ 10000 * BC := by
  have rd := rate_dec hg h (by omega)
  have c1 := base_bd hg hs hl (k := z) (by omega)
  have c2 := base_bd hg hs hl (k := k) hk
  have c3 := base_nn hg (j := z) (by omega)
  have c4 := base_nn hg (j := k) hk
  have b1 := BC_big
  have b2 := BB_pos
  have ab := ediv_abs (a := base l z - base l k) (b := rate l z - rate l k) (B := 10000 * BC) (by omega) (by omega) (by omega) (by omega)
  unfold comes
  omega
theorem line_get {l : List Per} {k : Nat} (h : k < l.length) : sIx (linesD l) (.int (k : Int)) = .ok (.tuple [.int (base l k), .int (rate l k)]) := by
  have := line_ix (l := l) (k := (k : Int)) (by omega) (by omega)
  rwa [Int.toNat_natCast] at this
theorem lines_cut (l : List Per) (k : Nat) (h : k ≤ l.length) : kSlice (linesD l) (some (k : Int)) none = .ok (.list ((List.range' k (l.length - k)).map (lineD l))) := by
  show Rs.ok (PyData.list (cutD ((List.range l.length).map (lineD l)) (some (k : Int)) none)) = _
  rw [cut_drop, List.range_eq_range', List.drop_range']
  simp
theorem round_ok {l : List Per} (hg : Gds l) (hs : Sml l) (hl : l.length ≤ 64) (hp : l ≠ []) {a : Int} {F : List Pc} (h : PInv l a F) (ha : a ≤ 10000 * BC) (s4 s5 s6 s7 s8 s9 s10 s11 s12 : Sl) : ∃ z, z ∈ sts l a ∧ (∀ j, j ∈ sts l a → j ≤ z) ∧
    ((∃ t5 t6 t7 t8 t9 t10 t11 t12, b_law_pieces_2 [.va (rowsD l), .va (linesD l), psS F, .va (.int a), s4, s5, s6, s7, s8, s9, s10, s11, s12] = .brk [.va (rowsD l), .va (linesD l), psS (pcs l), .va (.int a), s4, t5, t6, t7, t8, t9, t10, t11, t12]) ∨
    ∃ (a' : Int) (F' : List Pc) (t5 t6 t7 t8 t9 t10 t11 t12 : Sl), PInv l a' F' ∧ a' ≤ 10000 * BC ∧ (∃ p ∈ F', p.1 = z) ∧ b_law_pieces_2 [.va (rowsD l), .va (linesD l), psS F, .va (.int a), s4, s5, s6, s7, s8, s9, s10, s11, s12] = .nx [.va (rowsD l), .va (linesD l), psS F', .va (.int a'), s4, t5, t6, t7, t8, t9, t10, t11, t12]) := by
  have hpl := List.length_pos_iff.mpr hp
  have b1 := BC_big
  have b2 := BB_pos
  have a1 := h.a1
  obtain ⟨z, hz1, hz2, hz3, hz4⟩ := sts_last hp a1
  have hzm : z ∈ sts l a := sts_mem.mpr ⟨hz2, hz3⟩
  refine ⟨z, hzm, hz4, ?_⟩
  have mid := mid_ok hp h hz1
  obtain ⟨G, lo, hF1⟩ := mid.last
  rw [hF1] at mid
  have rr := rg1_map l.length (by omega)
  have fl := srt_len (l := l) h.srt fun p hpm => (h.rng p.1 p.2.1 p.2.2 hpm).1
  have sl : (sts l a).length ≤ l.length := by
    unfold sts
    refine Nat.le_trans (List.length_filter_le _ _) ?_
    rw [List.length_range]
    exact Nat.le_refl _
  obtain ⟨vs, hvs⟩ : ∃ v : List Int, v = (List.range l.length).map fun j => Vn l j a := ⟨_, rfl⟩
  have c1 : c_law_pieces_1 [.va (rowsD l), .va (linesD l), psS F, .va (.int a), s4, s5, s6, s7, s8, s9, s10, s11, s12] = .ok (intsL vs) := by
    unfold c_law_pieces_1
    have := comp_list (vs := [5, 6]) (f := iLst (fV 1)) (tg := tgT [(tgN 5), (tgN 6)]) (e := fBin sAdd (fV 5) (fBin sMul (fV 6) (fV 3))) (ρ := [.va (rowsD l), .va (linesD l), psS F, .va (.int a), s4, s5, s6, s7, s8, s9, s10, s11, s12]) (lineD l) (fun j => PyData.int (Vn l j a)) (List.range l.length) (by simp; omega) (by simp [linesD]) rfl fun j hj => by
      have hj := List.mem_range.mp hj
      have r1 := rate_pos hg hj
      have r2 := rate_le hg j
      have r3 := mul_BB hl
      have mu := mulC (x := rate l j) (y := a) (by omega) (by omega) (by omega) (by omega)
      refine ⟨_, rfl, ?_⟩
      show (sMul (.int (rate l j)) (.int a)).bind (fun y => sAdd (.int (base l j)) y) = _
      rw [mu]
      show Rs.ok (PyData.int (base l j + rate l j * a)) = _
      rw [← line_at]
    rw [this, hvs]
    unfold intsL
    rw [List.map_map]
    rfl
  have mn : sMin (intsL vs) = .ok (.int (LC l a)) := by
    have := min_ints (o := vs) (by rw [hvs]; exact range_ne _ hpl)
    rw [this, hvs, LC_pos (by omega)]
  have c2 : ∀ s5 s6 s8 s9, c_law_pieces_2 [.va (rowsD l), .va (linesD l), psS F, .va (.int a), s4, s5, s6, .va (intsL vs), s8, s9, s10, s11, s12] = .ok (.list ((sts l a).map fun k : Nat => PyData.int (k : Int))) := fun s5 s6 s8 s9 => by
    unfold c_law_pieces_2 sts
    have ll : sLen (linesD l) = .ok (.int (l.length : Int)) := lines_len l
    refine comp_flt (fun k : Nat => PyData.int (k : Int)) (fun k : Nat => PyData.int (k : Int)) (fun j => decide (Vn l j a = LC l a)) (List.range l.length) (by simp; omega) (by simp [ll, rr]) rfl fun j hj => ?_
    have hj := List.mem_range.mp hj
    have ix : sIx (intsL vs) (.int (j : Int)) = .ok (.int (Vn l j a)) := ix_map (by rw [hvs, List.getElem?_map, List.getElem?_range hj]; rfl)
    exact ⟨_, rfl, by simp [wipeR, ix, mn], by simp [wipeR]⟩
  obtain ⟨t8, lp⟩ := add_loop a (.va (rowsD l)) (.va (linesD l)) s4 s5 s6 (.va (intsL vs)) (.va (.list ((sts l a).map fun k : Nat => PyData.int (k : Int)))) s10 s11 s12 (sts l a) F s8 (by omega)
  rw [hF1] at lp
  have lz : sIx (.list ((sts l a).map fun k : Nat => PyData.int (k : Int))) (.int (-1)) = .ok (.int (z : Int)) := by
    rcases (sts l a).eq_nil_or_concat with h0 | ⟨S, y, h0⟩
    · rw [h0] at hz1; cases hz1
    · rw [List.concat_eq_append] at h0
      rw [h0, List.getLast?_concat] at hz1
      have hz1 := Option.some.inj hz1
      subst hz1
      rw [h0]
      have this := ix_neg (ds := (S ++ [y]).map fun k : Nat => PyData.int (k : Int)) (k := 1) (d := .int (y : Int)) (Nat.le_refl _) (by simp) (by simp)
      exact this
  have ll : sLen (linesD l) = .ok (.int (l.length : Int)) := lines_len l
  have kl : kLst (.list ((sts l a).map fun k : Nat => PyData.int (k : Int))) = .ok ((sts l a).map fun k : Nat => PyData.int (k : Int)) := rfl
  by_cases hze : z + 1 = l.length
  · have hend := end_ok hg hp h hze hz3 hz4 mid
    have zi : (z : Int) = (l.length : Int) - 1 := by omega
    have sp := setP_last (fv := fC .none) (ρ := [.va (rowsD l), .va (linesD l), psS (G ++ [(z, lo, some a)]), .va (.int a), s4, s5, s6, .va (intsL vs), t8, .va (.list ((sts l a).map fun k : Nat => PyData.int (k : Int))), .va (.int (z : Int)), s11, s12]) (G := G) (j := z) (lo := lo) (hi := some a) (h' := none) rfl rfl
    rw [hend] at sp
    refine .inl ⟨s5, s6, .va (intsL vs), t8, .va (.list ((sts l a).map fun k : Nat => PyData.int (k : Int))), .va (.int (z : Int)), s11, s12, ?_⟩
    unfold b_law_pieces_2
    generalize (sts l a).map (fun k : Nat => PyData.int (k : Int)) = SL at *
    generalize psS (G ++ [(z, lo, some a)]) = S1 at *
    generalize psS F = S0 at *
    generalize psS (pcs l) = S2 at *
    have sp : fSetP 2 (fC .none) (fUn sNeg (fC (.int 1))) (fC (.int 2)) [.va (rowsD l), .va (linesD l), S1, .va (.int a), s4, s5, s6, .va (intsL vs), t8, .va (.list SL), .va (.int (z : Int)), s11, s12] = .nx [.va (rowsD l), .va (linesD l), S2, .va (.int a), s4, s5, s6, .va (intsL vs), t8, .va (.list SL), .va (.int (z : Int)), s11, s12] := sp
    simp [c1, c2, lp, lz, ll, zi]
    rw [zi] at sp
    simp [sp]
  · have hz' : z + 1 < l.length := by omega
    have hnx := next_ok hg hp h hz' hz3 hz4 mid
    obtain ⟨nk1, k, k1, k2, k3⟩ := nextA_spec hz'
    have nb := comes_bd hg hs hl k1 k2
    have lg := line_get hz2
    have lc := lines_cut l (z + 1) (by omega)
    have cs : ((z + 1 : Nat) : Int) = (z : Int) + 1 := by omega
    rw [cs] at lc
    have c3 : ∀ s11 s12, c_law_pieces_3 [.va (rowsD l), .va (linesD l), psS (G ++ [(z, lo, some a)]), .va (.int a), s4, .va (.int (base l z)), .va (.int (rate l z)), .va (intsL vs), t8, .va (.list ((sts l a).map fun k : Nat => PyData.int (k : Int))), .va (.int (z : Int)), s11, s12] = .ok (intsL ((List.range' (z + 1) (l.length - (z + 1))).map (comes l z))) := fun s11 s12 => by
      unfold c_law_pieces_3
      have := comp_list (vs := [11, 12]) (f := iLst (fSlice (fV 1) (fPart (some (fBin sAdd (fV 10) (fC (.int 1))))) (fPart none))) (tg := tgT [(tgN 11), (tgN 12)]) (e := fUn sNeg (fBin sDiv (fBin sSub (fV 5) (fV 11)) (fBin sSub (fV 6) (fV 12)))) (ρ := [.va (rowsD l), .va (linesD l), psS (G ++ [(z, lo, some a)]), .va (.int a), s4, .va (.int (base l z)), .va (.int (rate l z)), .va (intsL vs), t8, .va (.list ((sts l a).map fun k : Nat => PyData.int (k : Int))), .va (.int (z : Int)), s11, s12]) (lineD l) (fun j => PyData.int (comes l z j)) (List.range' (z + 1) (l.length - (z + 1))) (by simp; omega) (by simp [lc]) rfl fun j hj => by
        have hj := List.mem_range'_1.mp hj
        have rd := rate_dec hg (show z < j by omega) (by omega)
        have r2 := rate_le hg z
        have r3 := mul_BB hl
        have rj := rate_pos hg (show j < l.length by omega)
        have dv := divC (x := base l z - base l j) (y := rate l z - rate l j) (by omega) (by omega)
        refine ⟨_, rfl, ?_⟩
        show ((sDiv (.int (base l z - base l j)) (.int (rate l z - rate l j))).bind sNeg) = _
        rw [dv]
        rfl
      rw [this]
      unfold intsL
      rw [List.map_map]
      rfl
    have mi := min_ints (o := (List.range' (z + 1) (l.length - (z + 1))).map (comes l z)) (fun e => by
      have := congrArg List.length e
      rw [List.length_map, List.length_range', List.length_nil] at this
      omega)
    have hna : lmin ((List.range' (z + 1) (l.length - (z + 1))).map (comes l z)) = nextA l z := rfl
    rw [hna] at mi
    generalize (List.range' (z + 1) (l.length - (z + 1))).map (comes l z) = CO at *
    have zi : ¬ (z : Int) = (l.length : Int) - 1 := by omega
    have sp := setP_last (fv := fBin sSub (fV 3) (fC (.int 1))) (ρ := [.va (rowsD l), .va (linesD l), psS (G ++ [(z, lo, some a)]), .va (.int (nextA l z)), s4, .va (.int (base l z)), .va (.int (rate l z)), .va (intsL vs), t8, .va (.list ((sts l a).map fun k : Nat => PyData.int (k : Int))), .va (.int (z : Int)), s11, s12]) (G := G) (j := z) (lo := lo) (hi := some a) (h' := some (nextA l z - 1)) rfl rfl
    refine .inr ⟨nextA l z, G ++ [(z, lo, some (nextA l z - 1))], .va (.int (base l z)), .va (.int (rate l z)), .va (intsL vs), t8, .va (.list ((sts l a).map fun k : Nat => PyData.int (k : Int))), .va (.int (z : Int)), s11, s12, hnx, by omega, ⟨_, List.mem_append.mpr (.inr (List.mem_singleton.mpr rfl)), rfl⟩, ?_⟩
    unfold b_law_pieces_2
    generalize (sts l a).map (fun k : Nat => PyData.int (k : Int)) = SL at *
    generalize psS (G ++ [(z, lo, some (nextA l z - 1))]) = S2 at *
    generalize psS (G ++ [(z, lo, some a)]) = S1 at *
    generalize psS F = S0 at *
    generalize nextA l z = NA at *
    have sp : fSetP 2 (fBin sSub (fV 3) (fC (.int 1))) (fUn sNeg (fC (.int 1))) (fC (.int 2)) [.va (rowsD l), .va (linesD l), S1, .va (.int NA), s4, .va (.int (base l z)), .va (.int (rate l z)), .va (intsL vs), t8, .va (.list SL), .va (.int (z : Int)), s11, s12] = .nx [.va (rowsD l), .va (linesD l), S2, .va (.int NA), s4, .va (.int (base l z)), .va (.int (rate l z)), .va (intsL vs), t8, .va (.list SL), .va (.int (z : Int)), s11, s12] := sp
    simp [c1, c2, lp, lz, ll, zi, lg, c3, mi, sp]
end Lw

namespace Lw
open PySem Ct L2
theorem rounds_ok {l : List Per} (hg : Gds l) (hs : Sml l) (hl : l.length ≤ 64) (hp : l ≠ []) : ∀ (m t : Nat) (F : List Pc) (a : Int) (s4 s5 s6 s7 s8 s9 s10 s11 s12 : Sl), t + m = l.length → PInv l a F → a ≤ 10000 * BC → (t = 0 ∨ ∃ p ∈ F, t ≤ p.1 + 1) → ∃ t3 t4 t5 t6 t7 t8 t9 t10 t11 t12, loopS (tgN 4) b_law_pieces_2 ((List.range' t m).map fun k : Nat => PyData.int (k : Int)) [.va (rowsD l), .va (linesD l), psS F, .va (.int a), s4, s5, s6, s7, s8, s9, s10, s11, s12] = .nx [.va (rowsD l), .va (linesD l), psS (pcs l), t3, t4, t5, t6, t7, t8, t9, t10, t11, t12]
  | 0, t, F, a, s4, s5, s6, s7, s8, s9, s10, s11, s12, hm, h, ha, ht => by
    exfalso
    have hpl := List.length_pos_iff.mpr hp
    rcases ht with ht | ⟨p, p1, p2⟩
    · omega
    · obtain ⟨z, hz, hmx, _⟩ := round_ok hg hs hl hp h ha .un .un .un .un .un .un .un .un .un
      have := last_gt hg h hz hmx p1
      have := (sts_mem.mp hz).1
      omega
  | m + 1, t, F, a, s4, s5, s6, s7, s8, s9, s10, s11, s12, hm, h, ha, ht => by
    obtain ⟨z, hz, hmx, hr⟩ := round_ok hg hs hl hp h ha (.va (.int (t : Int))) s5 s6 s7 s8 s9 s10 s11 s12
    rw [List.range'_succ, List.map_cons]
    rcases hr with ⟨t5, t6, t7, t8, t9, t10, t11, t12, e⟩ | ⟨a', F', t5, t6, t7, t8, t9, t10, t11, t12, h', ha', ⟨p, p1, p2⟩, e⟩
    · refine ⟨.va (.int a), .va (.int (t : Int)), t5, t6, t7, t8, t9, t10, t11, t12, ?_⟩
      generalize psS F = S0 at *
      generalize psS (pcs l) = S1 at *
      simp [loopS, e]
    · have htz : t ≤ z := by
        rcases ht with ht | ⟨q, q1, q2⟩
        · omega
        · have := last_gt hg h hz hmx q1
          omega
      obtain ⟨u3, u4, u5, u6, u7, u8, u9, u10, u11, u12, e2⟩ := rounds_ok hg hs hl hp m (t + 1) F' a' (.va (.int (t : Int))) t5 t6 t7 t8 t9 t10 t11 t12 (by omega) h' ha' (.inr ⟨p, p1, by omega⟩)
      refine ⟨u3, u4, u5, u6, u7, u8, u9, u10, u11, u12, ?_⟩
      rw [← e2]
      generalize psS F = S0 at *
      generalize psS F' = S1 at *
      generalize psS (pcs l) = S2 at *
      simp [loopS, e]
theorem inv_start (l : List Per) : PInv l 1 [] := ⟨Int.le_refl _, List.Pairwise.nil, (fun j lo hi h => by cases h), (fun j hj e e1 e2 => by omega), .inl ⟨rfl, rfl⟩⟩
theorem law_pieces_ok (l : List Per) (hg : Gds l) (hs : Sml l) (hl : l.length ≤ 64) (hp : l ≠ []) : f_law_pieces [rowsD l] = .ok (psD (pcs l)) := by
  rw [u_law_pieces]
  unfold g_law_pieces
  have b1 := BC_big
  have b2 := BB_pos
  have li := law_lines_ok l hg (by omega)
  obtain ⟨t3, t4, t5, t6, t7, t8, t9, t10, t11, t12, e⟩ := rounds_ok hg hs hl hp l.length 0 [] 1 .un .un .un .un .un .un .un .un .un (by omega) (inv_start l) (by omega) (.inl rfl)
  have rr := rg1_map l.length (by omega)
  rw [List.range_eq_range'] at rr
  have ll : sLen (linesD l) = .ok (.int (l.length : Int)) := lines_len l
  have s0 : psS [] = .ot (.r (.r .g)) (.list []) := rfl
  have s1 : psS (pcs l) = .ot (.r (.r .g)) (psD (pcs l)) := rfl
  rw [s0, s1] at e
  generalize psD (pcs l) = R at *
  simp [li, ll, rr, e]
end Lw

namespace Lw
open PySem Ct L2
theorem then_ok (pC : Nat) (l : List Per) (x : Per) (hg : Gds (l ++ [x])) (hl : l.length ≤ 399) : f_Profile_then pC [prD pC l, pd x] = .ok (prD pC (l ++ [x])) := by
  rw [u_Profile_then]
  unfold g_Profile_then
  have a : sAdd (rowsD l) (.list [pd x]) = .ok (rowsD (l ++ [x])) := add_rows (m := [x]) (by simp; omega)
  have i := init_ok pC (l ++ [x]) hg (by simp; omega)
  simp [a, i]
theorem pl_pcs (l : List Per) (hl : l.length ≤ 1000) : PlN 2 (pcsD l) := by
  have := pcs_len l
  unfold pcsD PlN
  refine ⟨by simp; omega, fun d hd => ?_⟩
  obtain ⟨p, _, rfl⟩ := List.mem_map.mp hd
  obtain ⟨j, lo, hi⟩ := p
  cases hi <;> simp [PlN, pcD, capD]
def ask (l : List Per) (fs : List Int) : List Int := if l.length = 0 then [0] else fs
theorem ask_ok (l : List Per) (fs : List Int) : f_law_asked [rowsD l, intsL fs] = .ok (intsL (ask l fs)) := by
  rw [u_law_asked]
  unfold g_law_asked ask
  by_cases h : l.length = 0
  · have z : intsL [0] = .list [.int 0] := rfl
    have : l = [] := List.eq_nil_of_length_eq_zero h
    subst this
    simp [z]
  · have h2 : ¬ l = [] := fun z => h (by rw [z]; rfl)
    simp [h, h2]
def dueT (l : List Per) (fs : List Int) : D := .list [pcsD l, .int (l.length : Int), .int (LC l 0), intsL ((ask l fs).map (LC l))]
theorem pieces_all (l : List Per) (hg : Gds l) (hs : Sml l) (hl : l.length ≤ 64) : f_law_pieces [rowsD l] = .ok (psD (pcs l)) := by
  by_cases hp : l = []
  · subst hp
    rw [u_law_pieces]
    unfold g_law_pieces
    have li : f_law_lines [rowsD []] = .ok (.list []) := law_lines_ok [] hg (by decide)
    have e : psD (pcs []) = .list [] := rfl
    simp [li, e, loopS]
  · exact law_pieces_ok l hg hs hl hp
theorem dpc_loop (l : List Per) (A B s7 s8 : Sl) : ∀ (P acc : List Pc) (s4 s5 s6 : Sl), (∀ p ∈ P, p.1 < l.length) → acc.length + P.length ≤ 900 → ∃ t4 t5 t6, loopS (tgTl [(tgN 4), (tgN 5), (tgN 6)]) b_law_due_1 (P.map pieceL) [A, B, .va (linesD l), .ow (acc.map (pcD l)), s4, s5, s6, s7, s8] = .nx [A, B, .va (linesD l), .ow ((acc ++ P).map (pcD l)), t4, t5, t6, s7, s8]
  | [], acc, s4, s5, s6, _, _ => ⟨s4, s5, s6, by simp [loopS]⟩
  | (j, lo, hi) :: P, acc, s4, s5, s6, h, hn => by
    rw [List.length_cons] at hn
    have hj : j < l.length := h _ List.mem_cons_self
    obtain ⟨t4, t5, t6, e⟩ := dpc_loop l A B s7 s8 P (acc ++ [(j, lo, hi)]) (.va (.int j)) (.va (.int lo)) (.va (capD hi)) (fun p hp => h p (List.mem_cons_of_mem _ hp)) (by rw [List.length_append, List.length_singleton]; omega)
    refine ⟨t4, t5, t6, ?_⟩
    rw [show acc ++ (j, lo, hi) :: P = acc ++ [(j, lo, hi)] ++ P by simp, ← e, List.map_cons, List.map_append, List.map_singleton]
    have li := line_ix (l := l) (k := (j : Int)) (by omega) (by omega)
    rw [Int.toNat_natCast] at li
    have hz : (acc.map (pcD l)).length < sizeLine := lt_size (by rw [List.length_map]; omega)
    have pe : pcD l (j, lo, hi) = .tuple [.int j, .int lo, capD hi, .int (base l j), .int (rate l j)] := rfl
    rw [pe]
    generalize acc.map (pcD l) = X at *
    have bd : b_law_due_1 [A, B, .va (linesD l), .ow X, .va (.int j), .va (.int lo), .va (capD hi), s7, s8] = .nx [A, B, .va (linesD l), .ow (X ++ [.tuple [.int j, .int lo, capD hi, .int (base l j), .int (rate l j)]]), .va (.int j), .va (.int lo), .va (capD hi), s7, s8] := by
      unfold b_law_due_1
      simp [li, hz]
    simp [loopS, pieceL, bd]
theorem LC_asked {l : List Per} {fs : List Int} {B : Int} (hb : 0 ≤ B) (h : ∀ e ∈ fs, 0 ≤ e ∧ e ≤ B) : ∀ e ∈ ask l fs, 0 ≤ e ∧ e ≤ B ∧ (0 < e → l ≠ []) := by
  unfold ask
  split
  · rename_i z
    intro e he
    have := List.mem_singleton.mp he
    omega
  · rename_i z
    exact fun e he => ⟨(h e he).1, (h e he).2, fun _ y => z (by rw [y]; rfl)⟩
theorem due_ok (l : List Per) (fs : List Int) (hg : Gds l) (hs : Sml l) (hl : l.length ≤ 64) (hf : ∀ e ∈ fs, 0 ≤ e ∧ e ≤ 1000000 * BC) (hn : fs.length ≤ 100) : f_law_due [rowsD l, intsL fs] = .ok (dueT l fs) := by
  rw [u_law_due]
  unfold g_law_due
  have li := law_lines_ok l hg (by omega)
  have pi := pieces_all l hg hs hl
  have pl := pcs_len l
  obtain ⟨t4, t5, t6, e⟩ := dpc_loop l (.va (rowsD l)) (.va (intsL fs)) .un .un (pcs l) [] .un .un .un (fun p hp => pcs_lt hp) (by simp; omega)
  have al : (ask l fs).length ≤ 100 := by unfold ask; split <;> simp [hn]
  have b1 := BC_big
  have b2 := BB_pos
  have lq := LC_asked (l := l) (by omega) hf
  have cc : ∀ s2 s3 s4 s5 s6 s8, c_law_due_1 [.va (rowsD l), .va (intsL fs), s2, s3, s4, s5, s6, .un, s8] = .ok (intsL ((ask l fs).map (LC l))) := by
    intros
    unfold c_law_due_1
    have a := ask_ok l fs
    have ie : intsL ((ask l fs).map (LC l)) = .list ((ask l fs).map fun e => PyData.int (LC l e)) := by simp [intsL, List.map_map, Function.comp_def]
    have ke : kLst (intsL (ask l fs)) = .ok ((ask l fs).map fun e => PyData.int e) := id rfl
    rw [ie]
    refine comp_list (fun e => PyData.int e) (fun e => PyData.int (LC l e)) (ask l fs) (by omega) (by simp [a]) rfl fun e he => ⟨_, rfl, ?_⟩
    obtain ⟨q1, q2, q3⟩ := lq e he
    have c := law_least_ok l e hg (by omega) q1 q2 q3
    simp [c]
  have co := law_costs_ok l hg (by omega)
  have cl := costs_last l
  have lz := LC_zero l
  unfold dueT
  have pe : psD (pcs l) = .list ((pcs l).map pieceL) := rfl
  have pe2 : pcsD l = .list ((pcs l).map (pcD l)) := rfl
  rw [pe] at pi
  rw [pe2]
  rw [List.nil_append] at e
  generalize (pcs l).map (pcD l) = W at *
  generalize (pcs l).map pieceL = W2 at *
  generalize costs l l.length = cs at *
  simp at e
  simp [li, pi, e, cc, co, cl, lz]
theorem pl_due (l : List Per) (fs : List Int) (hl : l.length ≤ 900) (hn : fs.length ≤ 100) : PlN 3 (dueT l fs) := by
  have p1 := pl_pcs l (by omega)
  have al : (ask l fs).length ≤ 100 := by unfold ask; split <;> simp [hn]
  have p2 := pl_ints ((ask l fs).map (LC l)) (by simp; omega)
  unfold dueT PlN
  refine ⟨by simp, fun d hd => ?_⟩
  simp at hd
  rcases hd with rfl | rfl | rfl | rfl
  · exact p1
  · simp [PlN]
  · simp [PlN]
  · exact p2.up
end Lw

namespace Ct
open PySem PySem.Spec PyProof.Rows L2

inductive Rm (α : Type) where
  | ok (d : α) (ρ : Rho)
  | exc (e : Er) (ρ : Rho)
  | stuck
def Rm.bind {α β : Type} (r : Rm α) (k : α → Rho → Rm β) : Rm β := match r with
  | .ok d ρ => k d ρ
  | .exc e ρ => .exc e ρ
  | .stuck => .stuck
def Rm.out {α : Type} (r : Rm α) (k : α → Rho → Out) : Out := match r with
  | .ok d ρ => k d ρ
  | .exc e ρ => .exc e ρ
  | .stuck => .stuck
def WpM {α : Type} (r : Rm α) (P : α → Rho → Prop) (E : Er → Rho → Prop) : Prop := match r with
  | .ok d ρ => P d ρ
  | .exc e ρ => E e ρ
  | .stuck => False
theorem WpM.imp {α : Type} {r : Rm α} {P P' : α → Rho → Prop} {E E' : Er → Rho → Prop} (h : WpM r P E) (hp : ∀ d ρ, P d ρ → P' d ρ) (he : ∀ e ρ, E e ρ → E' e ρ) : WpM r P' E' := by
  cases r with
  | ok d ρ => exact hp d ρ h
  | exc e ρ => exact he e ρ h
  | stuck => exact h
theorem WpM.bind {α β : Type} {r : Rm α} {k : α → Rho → Rm β} {P : β → Rho → Prop} {E : Er → Rho → Prop} (h : WpM (r.bind k) P E) : WpM r (fun d ρ => WpM (k d ρ) P E) E := by
  cases r with
  | ok d ρ => exact h
  | exc e ρ => exact h
  | stuck => exact h
def Rs.m {α : Type} (r : Rs α) (ρ : Rho) : Rm α := match r with
  | .ok d => .ok d ρ
  | .exc e => .exc e ρ
  | .stuck => .stuck
section
variable {S : Sx} {H0 G0 H G H1 G1 H' G' : Hp} {σ : St} {ρ : Rho}
def ExM (S : Sx) (H0 G0 : Hp) (σ : St) (er : Er) (ρ : Rho) : Prop := ∀ c dd H' G', Ok S H0 G0 σ H' G' ρ → ErR S.ca S.cf G' er c dd → S.W c dd σ H'
structure Own (H0 : Hp) (σ : St) (ρ : Rho) (H G : Hp) (fp : List Addr) : Prop where
  nd : fp.Nodup
  h0 : ∀ p ∈ fp, H0 p = none
  sep : ∀ (j : Nat) (b : Sl) (p : Addr), ρ[j]? = some b → FP H G σ[j]? p b → p ∉ fp
theorem Own.nil : Own H0 σ ρ H G [] := ⟨List.nodup_nil, (fun p z => nomatch z), (fun j b p _ _ z => nomatch z)⟩
theorem wpm_of {α : Type} {r : Rs α} {P : α → Rho → Prop} (q : Ok S H0 G0 σ H G ρ) (w : WpM (r.m ρ) P (ExM S H0 G0 σ)) : Wp r (fun d => P d ρ) (ExW S σ H G) := by
  cases r with
  | ok a => exact w
  | exc e => exact fun c dd H' G' t er => w c dd H' G' (q.step t) er
  | stuck => exact w

theorem Ok.cutF (q : Ok S H0 G0 σ H G ρ) {fp : List Addr} (h0 : ∀ p ∈ fp, H0 p = none) (hg : ∀ p ∈ fp, G p = none) (hs : ∀ (j : Nat) (b : Sl) (p : Addr), ρ[j]? = some b → FP H G σ[j]? p b → p ∉ fp) : Ok S H0 G0 σ (cutH H fp) G ρ := by
  have tr : ∀ (j : Nat) (b : Sl) (v : V) (k : Sh) (d : D) (f : List Addr), ρ[j]? = some b → σ[j]? = some (some v) → RT H G k v d f → b = .ot k d → RT (cutH H fp) G k v d f := fun j b v k d f e1 e2 r eb => by
    subst eb
    exact r.mono (Same.refl _) fun p hp => ⟨(r.own p hp).2, cut_out (hs j _ p e1 ⟨v, f, e2, r, hp⟩)⟩
  have tb : ∀ (v : V) (k : Sh) (d : D) (f : List Addr), RT (cutH H fp) G k v d f → RT H G k v d f := fun v k d f r => r.mono (Same.refl _) fun p hp => ⟨(r.own p hp).2, by
    by_cases z : p ∈ fp
    · exact absurd (cut_in z) (r.own p hp).1
    · exact (cut_out z).symm⟩
  have fb : ∀ (o : Option (Option V)) (p : Addr) (b : Sl), FP (cutH H fp) G o p b → FP H G o p b := fun o p b h => by
    cases b with
    | ot k d =>
      obtain ⟨v, f, a, r, c⟩ := h
      exact ⟨v, f, a, tb v k d f r, c⟩
    | ow _ => exact h
    | od _ => exact h
    | _ => exact h.elim
  refine ⟨⟨fun a u e => ?_, q.st.gg, fun a u e => ?_, q.st.sep⟩, q.len, fun i s e => ?_, fun i j a b p ne ea eb fa fb' => q.sep i j a b p ne ea eb (fb _ _ _ fa) (fb _ _ _ fb'), q.pin⟩
  · rw [cut_out (fun z => by rw [h0 a z] at e; cases e)]
    exact q.st.hh a u e
  · rw [cut_out (fun z => by rw [hg a z] at e; cases e)]
    exact q.st.sub a u e
  · obtain ⟨ov, e1, e2⟩ := q.sl i s e
    refine ⟨ov, e1, ?_⟩
    cases s with
    | un => exact trivial
    | va d => exact e2
    | ex er => exact e2
    | ow ds =>
      obtain ⟨p, vs, a, b, c, d, f⟩ := e2
      subst a
      exact ⟨p, vs, rfl, by rw [cut_out (hs i _ p e e1)]; exact b, c, d, f⟩
    | od ds =>
      obtain ⟨p, vs, a, b, c, d, f⟩ := e2
      subst a
      exact ⟨p, vs, rfl, by rw [cut_out (hs i _ p e e1)]; exact b, c, d, f⟩
    | ot k d =>
      obtain ⟨v, f, a, b, c, d'⟩ := e2
      subst a
      exact ⟨v, f, rfl, tr i _ v k d f e e1 b rfl, c, d'⟩
    | br k d =>
      obtain ⟨v, f, a, b, c⟩ := e2
      exact ⟨v, f, a, b.mono (Same.refl _) fun p hp => ⟨(b.own p hp).2, cut_out fun z => c p hp (h0 p z)⟩, c⟩
theorem Ok.drop1 (q : Ok S H0 G0 σ H G ρ) (i : Nat) : Ok S H0 G0 σ H G (ρ.set i .un) := by
  refine ⟨q.st, by rw [List.length_set]; exact q.len, fun a x e => ?_, fun a b x y p ne ea eb fa fb => ?_, fun a v t e1 e2 e3 => ?_⟩
  · rcases set_get e with ⟨rfl, rfl⟩ | ⟨n1, e⟩
    · have : i < σ.length := by
        rw [q.len]
        rcases Nat.lt_or_ge i ρ.length with z | z
        · exact z
        · rw [List.getElem?_eq_none (by rw [List.length_set]; exact z)] at e; cases e
      exact ⟨_, List.getElem?_eq_getElem this, trivial⟩
    · exact q.sl a x e
  · rcases set_get ea with ⟨rfl, rfl⟩ | ⟨n1, ea⟩
    · exact fa.elim
    · rcases set_get eb with ⟨rfl, rfl⟩ | ⟨n2, eb⟩
      · exact fb.elim
      · exact q.sep a b x y p ne ea eb fa fb
  · rcases set_get e2 with ⟨rfl, rfl⟩ | ⟨n1, e2⟩
    · cases e3
    · exact q.pin a v t e1 e2 e3
def clrI : List (Option Nat) → Rho → Rho
  | [], ρ => ρ
  | none :: is, ρ => clrI is ρ
  | some i :: is, ρ => clrI is (ρ.set i .un)
theorem Ok.clr : ∀ {is : List (Option Nat)} {ρ : Rho}, Ok S H0 G0 σ H G ρ → Ok S H0 G0 σ H G (clrI is ρ)
  | [], _, q => q
  | none :: is, _, q => Ok.clr (is := is) q
  | some i :: is, _, q => Ok.clr (is := is) (q.drop1 i)
theorem clr_get : ∀ {is : List (Option Nat)} {ρ : Rho} {j : Nat} {b : Sl}, (clrI is ρ)[j]? = some b → b = .un ∨ (some j ∉ is ∧ ρ[j]? = some b)
  | [], _, _, _, h => .inr ⟨(fun z => nomatch z), h⟩
  | none :: is, _, _, _, h => by
    rcases clr_get (is := is) h with z | ⟨z1, z2⟩
    · exact .inl z
    · exact .inr ⟨fun m => by
        rcases List.mem_cons.mp m with e | m
        · cases e
        · exact z1 m, z2⟩
  | some i :: is, ρ, j, b, h => by
    rcases clr_get (is := is) h with z | ⟨z1, z2⟩
    · exact .inl z
    · rcases set_get z2 with ⟨rfl, rfl⟩ | ⟨ne, z2⟩
      · exact .inl rfl
      · exact .inr ⟨fun m => by
          rcases List.mem_cons.mp m with e | m
          · cases e; exact ne rfl
          · exact z1 m, z2⟩
theorem Ok.setS (q : Ok S H0 G0 σ H G ρ) {i : Nat} {v : V} {s : Sl} (e : σ[i]? = some (some v)) (h : SlR S H0 H G (some v) s) (hn : ∀ (j : Nat) (b : Sl) (p : Addr), j ≠ i → ρ[j]? = some b → FP H G (some (some v)) p s → FP H G σ[j]? p b → False)
    (hio : ∀ u, isOwn s = true → S.io i = some u → u = v) : Ok S H0 G0 σ H G (ρ.set i s) := by
  refine ⟨q.st, by rw [List.length_set]; exact q.len, fun a x ex => ?_, fun a b x y p ne ea eb fa fb => ?_, fun a u t e1 e2 e3 => ?_⟩
  · rcases set_get ex with ⟨rfl, rfl⟩ | ⟨n1, ex⟩
    · exact ⟨_, e, h⟩
    · exact q.sl a x ex
  · rcases set_get ea with ⟨rfl, rfl⟩ | ⟨n1, ea⟩
    · rcases set_get eb with ⟨rfl, rfl⟩ | ⟨n2, eb⟩
      · exact ne rfl
      · rw [e] at fa
        exact hn b y p (Ne.symm ne) eb fa fb
    · rcases set_get eb with ⟨rfl, rfl⟩ | ⟨n2, eb⟩
      · rw [e] at fb
        exact hn a x p ne ea fb fa
      · exact q.sep a b x y p ne ea eb fa fb
  · rcases set_get e2 with ⟨rfl, rfl⟩ | ⟨n1, e2⟩
    · rw [e, hio u e3 e1]
    · exact q.pin a u t e1 e2 e3
def putIo : List (Option Sh) → List (Option Nat) → List D → Rho → Rho
  | some k :: ms, some i :: is, s :: ss, ρ => putIo ms is ss (ρ.set i (slW k s))
  | some _ :: ms, none :: is, _ :: ss, ρ => putIo ms is ss ρ
  | none :: ms, _ :: is, ss, ρ => putIo ms is ss ρ
  | _, _, _, ρ => ρ
def PinI (S : Sx) (σ : St) : List (Option Sh) → List (Option Nat) → List V → Prop
  | some _ :: ms, some i :: is, v :: vs => σ[i]? = some (some v) ∧ (∀ u, S.io i = some u → u = v) ∧ PinI S σ ms is vs
  | some _ :: ms, none :: is, _ :: vs => PinI S σ ms is vs
  | none :: ms, none :: is, _ :: vs => PinI S σ ms is vs
  | [], [], [] => True
  | _, _, _ => False
theorem Ok.put : ∀ {ms : List (Option Sh)} {is : List (Option Nat)} {vs : List V} {ss : List D} {f1 : List Addr} {ρ : Rho} {R : List Addr}, Ok S H0 G0 σ H G ρ → IoR H G ms vs ss f1 → PinI S σ ms is vs → (R ++ f1).Nodup → (∀ p ∈ f1, H0 p = none) → (∀ (j : Nat) (b : Sl) (p : Addr), ρ[j]? = some b → FP H G σ[j]? p b → p ∉ R ++ f1) →
    Ok S H0 G0 σ H G (putIo ms is ss ρ) ∧ ∀ (j : Nat) (b : Sl) (p : Addr), (putIo ms is ss ρ)[j]? = some b → FP H G σ[j]? p b → p ∉ R
  | _, is, _, _, _, ρ, R, q, .nil, hp, nd, h0, hs => by
    cases is with
    | nil => exact ⟨q, fun j b p e f z => hs j b p e f (List.mem_append_left _ z)⟩
    | cons _ _ => exact hp.elim
  | none :: ms, none :: is, _, _, _, ρ, R, q, .va r, hp, nd, h0, hs => Ok.put (ms := ms) (is := is) q r hp nd h0 hs
  | none :: ms, some i :: is, _, _, _, ρ, R, q, .va r, hp, nd, h0, hs => hp.elim
  | none :: ms, [], _, _, _, ρ, R, q, .va r, hp, nd, h0, hs => hp.elim
  | some k :: ms, [], _, _, _, ρ, R, q, .io r1 r2, hp, nd, h0, hs => hp.elim
  | some k :: ms, none :: is, _, _, _, ρ, R, q, .io (f1 := f1) (f2 := f2) r1 r2, hp, nd, h0, hs => by
    have nd' : (R ++ f2).Nodup := by
      rw [List.nodup_append] at nd ⊢
      obtain ⟨a, b, c⟩ := nd
      rw [List.nodup_append] at b
      exact ⟨a, b.2.1, fun x hx y hy => c x hx y (List.mem_append_right _ hy)⟩
    exact Ok.put (ms := ms) (is := is) q r2 hp nd' (fun p z => h0 p (List.mem_append_right _ z)) fun j b p e f z => hs j b p e f (by
      rcases List.mem_append.mp z with z | z
      · exact List.mem_append_left _ z
      · exact List.mem_append_right _ (List.mem_append_right _ z))
  | some k :: ms, some i :: is, v :: vs, s :: ss, _, ρ, R, q, .io (f1 := f1) (f2 := f2) r1 r2, hp, nd, h0, hs => by
    obtain ⟨p1, p2, p3⟩ := hp
    have nd0 := nd
    rw [List.nodup_append] at nd
    obtain ⟨n1, n2, n3⟩ := nd
    rw [List.nodup_append] at n2
    obtain ⟨m1, m2, m3⟩ := n2
    obtain ⟨a1, a2⟩ := slW_rel (S := S) (H0 := H0) r1 m1 fun p z => h0 p (List.mem_append_left _ z)
    have q2 := q.setS (s := slW k s) p1 a1 (fun j b p ne e f g => hs j b p e g (List.mem_append_right _ (List.mem_append_left _ (a2 p f)))) (fun u _ e => p2 u e)
    have nd' : (R ++ f2).Nodup := List.nodup_append.mpr ⟨n1, m2, fun x hx y hy => n3 x hx y (List.mem_append_right _ hy)⟩
    refine Ok.put (ms := ms) (is := is) (ρ := ρ.set i (slW k s)) q2 r2 p3 nd' (fun p z => h0 p (List.mem_append_right _ z)) fun j b p e f z => ?_
    rcases set_get e with ⟨rfl, rfl⟩ | ⟨ne, e⟩
    · rw [p1] at f
      have := a2 p f
      rcases List.mem_append.mp z with z | z
      · exact n3 p z p (List.mem_append_left _ this) rfl
      · exact m3 p this p z rfl
    · refine hs j b p e f ?_
      rcases List.mem_append.mp z with z | z
      · exact List.mem_append_left _ z
      · exact List.mem_append_right _ (List.mem_append_right _ z)

def runC {α : Type} (r : Ri) (g : D → α) (ms : List (Option Sh)) (is : List (Option Nat)) (ρ : Rho) : Rm α := match r with
  | .ok d ss => .ok (g d) (putIo ms is ss (clrI is ρ))
  | .exc e ss => .exc e (putIo ms is ss (clrI is ρ))
  | .stuck => .stuck
structure ArgI (S : Sx) (H0 : Hp) (σ : St) (ρ : Rho) (ms : List (Option Sh)) (is : List (Option Nat)) (H G H1 G1 : Hp) (vs : List V) (ds : List D) (fp : List Addr) : Prop where
  st : Step H G H1 G1
  ar : ArgR H1 G1 ms vs ds fp
  nd : fp.Nodup
  h0 : ∀ p ∈ fp, H0 p = none
  own : ∀ p ∈ fp, H p = none ∨ ∃ j s, some j ∈ is ∧ ρ[j]? = some s ∧ FP H G σ[j]? p s
  pin : PinI S σ ms is vs
theorem ioCall {k0 : Sh} {ms : List (Option Sh)} {is : List (Option Nat)} {vs : List V} {ds : List D} {fp : List Addr} {f : List D → Ri} {Q : VK} (q : Ok S H0 G0 σ H G ρ) (a : ArgI S H0 σ ρ ms is H G H1 G1 vs ds fp)
    (w : WpM (runC (f ds) id ms is ρ) (fun d ρ' => ∀ v H' G' f0, Ok S H0 G0 σ H' G' ρ' → Same G G' → RT H' G' k0 v d f0 → Own H0 σ ρ' H' G' f0 → Q v H') (ExM S H0 G0 σ)) : SpI S.ca S.cf k0 ms f vs H1 Q (WE S.W σ) := by
  have q1 := q.step a.st
  have qc : Ok S H0 G0 σ H1 G1 (clrI is ρ) := q1.clr
  have sepC : ∀ (j : Nat) (b : Sl) (p : Addr), (clrI is ρ)[j]? = some b → FP H1 G1 σ[j]? p b → p ∉ fp := fun j b p e f' hp => by
    rcases clr_get e with rfl | ⟨z1, z2⟩
    · exact f'.elim
    · obtain ⟨ov, e1, e2⟩ := q.sl j b z2
      have f2 : FP H G σ[j]? p b := by
        rw [e1] at f' ⊢
        exact f'.back e2 fun _ _ _ _ _ r _ => r.step a.st
      rcases a.own p hp with h | ⟨j', s', m, es, fs⟩
      · exact (q.fpIn z2 f2).1 h
      · by_cases ej : j = j'
        · subst ej; exact z1 m
        · exact q.sep j j' b s' p ej z2 es f2 fs
  have qx := qc.cutF a.h0 (fun p hp => (a.ar.own p hp).2) sepC
  have base : ∀ {H' G' : Hp} {R f1 : List Addr} {ss : List D}, Step (cutH H1 fp) G1 H' G' → IoR H' G' ms vs ss f1 → (R ++ f1).Nodup → (∀ p ∈ R ++ f1, p ∈ fp ∨ H1 p = none) → Ok S H0 G0 σ H' G' (putIo ms is ss (clrI is ρ)) ∧ ∀ (j : Nat) (b : Sl) (p : Addr), (putIo ms is ss (clrI is ρ))[j]? = some b → FP H' G' σ[j]? p b → p ∉ R := fun {H' G' R f1 ss} t r nd hf => by
    have q' := qx.step t
    refine Ok.put q' r a.pin nd (fun p hp => ?_) fun j b p e f' hp => ?_
    · rcases hf p (List.mem_append_right _ hp) with z | z
      · exact a.h0 p z
      · exact Same.free q1.st.hh z
    · have f2 : FP (cutH H1 fp) G1 σ[j]? p b := by
        obtain ⟨ov, e1, e2⟩ := qx.sl j b e
        rw [e1] at f' ⊢
        exact f'.back e2 fun _ _ _ _ _ r _ => r.step t
      have inn := (qx.fpIn e f2).1
      rcases hf p hp with z | z
      · exact inn (cut_in z)
      · by_cases zz : p ∈ fp
        · exact inn (cut_in zz)
        · rw [cut_out zz] at inn
          exact inn z
  refine ⟨a.ar.len.1, G1, ds, fp, a.st.sub, a.ar, a.nd, ?_⟩
  unfold runC at w
  cases e : f ds with
  | stuck => rw [e] at w; exact w.elim
  | ok d ss =>
    rw [e] at w
    intro v H' G' f0 f1 t r0 r1 nd hf
    obtain ⟨b1, b2⟩ := base t r1 nd hf
    refine w v H' G' f0 b1 (a.st.gg.trans t.gg) r0 ⟨(List.nodup_append.mp nd).1, fun p hp => ?_, b2⟩
    rcases hf p (List.mem_append_left _ hp) with z | z
    · exact a.h0 p z
    · exact Same.free q1.st.hh z
  | exc er ss =>
    rw [e] at w
    intro c dd H' G' f1 t er' r1 nd hf
    exact w c dd H' G' (base (R := []) t r1 nd hf).1 er'
end
end Ct

namespace Ct
open PySem PySem.Spec PyProof.Rows L2

def XIA (S : Sx) (ms : List (Option Sh)) (is : List (Option Nat)) (es : List Expr) (g : Rho → Rs (List D)) : Prop := ∃ t, PA S.X es t ∧ ∀ H0 G0 σ H G ρ (Q : List V → Hp → Prop), Ok S H0 G0 σ H G ρ → Wp (g ρ) (fun ds => ∀ vs H1 G1 fp, ArgI S H0 σ ρ ms is H G H1 G1 vs ds fp → Q vs H1) (ExW S σ H G) → t σ H Q
def fIo (i : Nat) (k : Sh) : Rho → Rs D := fun ρ => match ioD k ρ[i]? with
  | some d => .ok d
  | none => .stuck
section
variable {S : Sx} {H0 G0 H G H1 G1 H2 G2 : Hp} {σ : St} {ρ : Rho} {ms : List (Option Sh)} {is : List (Option Nat)} {i : Nat} {k : Sh} {e : Expr} {es : List Expr} {f : Rho → Rs D} {g : Rho → Rs (List D)}
theorem fp_back (q : Ok S H0 G0 σ H G ρ) (s1 : Step H G H1 G1) {j : Nat} {b : Sl} {p : Addr} (e : ρ[j]? = some b) (h : FP H1 G1 σ[j]? p b) : FP H G σ[j]? p b := by
  obtain ⟨ov, e1, e2⟩ := q.sl j b e
  rw [e1] at h ⊢
  exact h.back e2 fun _ _ _ _ _ r _ => r.step s1
theorem ia_nil : XIA S [] [] [] aNil := ⟨_, pa_nil, fun H0 G0 σ H G ρ Q q w => w [] H G [] ⟨Step.refl q.st.sub, .nil, List.nodup_nil, (fun p z => nomatch z), (fun p z => nomatch z), trivial⟩⟩
theorem ia_e (h1 : XX S .e e f) (h2 : XIA S ms is es g) (hs : starEach (e :: es) S.X.env = (false, eval e S.X.env) :: starEach es S.X.env := by rfl) : XIA S (none :: ms) (none :: is) (e :: es) (aCons f g) :=
  let ⟨_, a1, a2⟩ := h1; let ⟨_, b1, b2⟩ := h2; ⟨_, pa_cons a1 b1 hs, fun H0 G0 σ H G ρ Q q w => by
    refine a2 H0 G0 σ H G ρ _ q (Wp.imp w.bind (fun x wx v H1 G1 s1 r1 => ?_) fun _ z => z)
    refine b2 H0 G0 σ H1 G1 ρ _ (q.step s1) (Wp.imp wx.bind (fun y wy vs H2 G2 fp a => ?_) fun e z => z.step s1)
    refine wy (v :: vs) H2 G2 fp ⟨s1.trans a.st, .va (Rp.mono a.st.gg r1) a.ar, a.nd, a.h0, fun p hp => ?_, a.pin⟩
    rcases a.own p hp with z | ⟨j, s, m, es, fs⟩
    · exact .inl (Same.free s1.hh z)
    · exact .inr ⟨j, s, List.mem_cons_of_mem _ m, es, fp_back q s1 es fs⟩⟩
theorem io_front (q : Ok S H0 G0 σ H G ρ) {s : Sl} {d : D} {v : V} {vs : List V} {ds : List D} {fp : List Addr} (es : ρ[i]? = some s) (ed : ioD k (some s) = some d) (ev : σ[i]? = some (some v)) (ni : some i ∉ is) (a : ArgI S H0 σ ρ ms is H G H1 G1 vs ds fp) :
    ∃ f, ArgI S H0 σ ρ (some k :: ms) (some i :: is) H G H1 G1 (v :: vs) (d :: ds) (f ++ fp) := by
  obtain ⟨ov, e1, r⟩ := q.sl i s es
  rw [ev] at e1
  cases e1
  obtain ⟨os, f, r1, r2, r3, r4⟩ := io_rt ed r
  refine ⟨f, a.st, .io (r1.step a.st) a.ar, List.nodup_append.mpr ⟨r2, a.nd, fun x hx y hy z => ?_⟩, fun p hp => ?_, fun p hp => ?_, ⟨ev, fun u eu => ?_, a.pin⟩⟩
  · subst z
    have fx : FP H G σ[i]? x s := by rw [ev]; exact r4 x hx
    rcases a.own x hy with z | ⟨j, t, m, et, ft⟩
    · exact (q.fpIn es fx).1 z
    · exact q.sep i j s t x (fun z => ni (by rw [z]; exact m)) es et fx ft
  · rcases List.mem_append.mp hp with z | z
    · exact r3 p z
    · exact a.h0 p z
  · rcases List.mem_append.mp hp with z | z
    · exact .inr ⟨i, s, List.mem_cons_self, es, by rw [ev]; exact r4 p z⟩
    · rcases a.own p z with z | ⟨j, t, m, x⟩
      · exact .inl z
      · exact .inr ⟨j, t, List.mem_cons_of_mem _ m, x⟩
  · have := q.pin i u s eu es os
    rw [ev] at this
    exact (Option.some.inj (Option.some.inj this)).symm
theorem fIo_at {d : D} (h : fIo i k ρ = .ok d) : ∃ s, ρ[i]? = some s ∧ ioD k (some s) = some d := by
  unfold fIo at h
  cases e : ρ[i]? with
  | none => rw [e] at h; cases h
  | some s =>
    rw [e] at h
    cases ed : ioD k (some s) with
    | none => rw [ed] at h; cases h
    | some d' => rw [ed] at h; cases h; exact ⟨s, rfl, ed⟩
theorem io_val (q : Ok S H0 G0 σ H G ρ) {s : Sl} {d : D} (es : ρ[i]? = some s) (ed : ioD k (some s) = some d) : ∃ v, σ[i]? = some (some v) := by
  obtain ⟨ov, e1, r⟩ := q.sl i s es
  have os := ioD_own ed
  cases s with
  | ow _ => obtain ⟨p, vs, rfl, _⟩ := r; exact ⟨_, e1⟩
  | od _ => obtain ⟨p, vs, rfl, _⟩ := r; exact ⟨_, e1⟩
  | ot _ _ => obtain ⟨v, fp, rfl, _⟩ := r; exact ⟨_, e1⟩
  | _ => cases os
theorem wp_fio {P : D → Prop} {E : Er → Prop} (w : Wp (fIo i k ρ) P E) : ∃ d s, P d ∧ ρ[i]? = some s ∧ ioD k (some s) = some d := by
  cases h : fIo i k ρ with
  | ok d =>
    rw [h] at w
    obtain ⟨s, a, b⟩ := fIo_at h
    exact ⟨d, s, w, a, b⟩
  | exc e =>
    unfold fIo at h
    split at h <;> cases h
  | stuck => rw [h] at w; exact w.elim
theorem ia_io (i : Nat) (k : Sh) {x : Str} {p : Pos} (hv : PE S.X (.Name x p) (tVar i)) (h2 : XIA S ms is es g) (ni : some i ∉ is := by decide) (hs : starEach (.Name x p :: es) S.X.env = (false, eval (.Name x p) S.X.env) :: starEach es S.X.env := by rfl) : XIA S (some k :: ms) (some i :: is) (.Name x p :: es) (aCons (fIo i k) g) :=
  let ⟨_, b1, b2⟩ := h2; ⟨_, pa_cons hv b1 hs, fun H0 G0 σ H G ρ Q q w => by
    obtain ⟨d, s, wd, es, ed⟩ := wp_fio w.bind
    obtain ⟨v, ev⟩ := io_val q es ed
    refine ⟨v, ev, ?_⟩
    refine b2 H0 G0 σ H G ρ _ q (Wp.imp wd.bind (fun y wy vs H2 G2 fp a => ?_) fun e z => z)
    obtain ⟨f, a'⟩ := io_front q es ed ev ni a
    exact wy (v :: vs) H2 G2 _ a'⟩
end

def TM (S : Sx) (k : Sh) (t : TE) (f : Rho → Rm D) : Prop := ∀ H0 G0 σ H G ρ (Q : VK), Ok S H0 G0 σ H G ρ → WpM (f ρ) (fun d ρ' => ∀ v H' G' fp, Ok S H0 G0 σ H' G' ρ' → Same G G' → RT H' G' k v d fp → Own H0 σ ρ' H' G' fp → Q v H') (ExM S H0 G0 σ) → t σ H Q
def XM (S : Sx) (k : Sh) (e : Expr) (f : Rho → Rm D) : Prop := ∃ t, PE S.X e t ∧ TM S k t f
def mE {α : Type} (f : Rho → Rs α) : Rho → Rm α := fun ρ => (f ρ).m ρ
def mB (f : Rho → Rm D) : Rho → Rm Bool := fun ρ => (f ρ).bind fun d ρ' => match d with
  | .bool b => .ok b ρ'
  | _ => .stuck
def mIsN (f : Rho → Rm D) : Rho → Rm Bool := fun ρ => (f ρ).bind fun d ρ' => (toB (fun _ => sIsN d) ρ').m ρ'
def mNotN (f : Rho → Rm D) : Rho → Rm Bool := fun ρ => (f ρ).bind fun d ρ' => (toB (fun _ => sNotN d) ρ').m ρ'
def mNot (f : Rho → Rm Bool) : Rho → Rm Bool := fun ρ => (f ρ).bind fun b ρ' => .ok (!b) ρ'
def mAnd (f g : Rho → Rm Bool) : Rho → Rm Bool := fun ρ => (f ρ).bind fun b ρ' => if b = true then g ρ' else .ok false ρ'
def mOr (f g : Rho → Rm Bool) : Rho → Rm Bool := fun ρ => (f ρ).bind fun b ρ' => if b = true then .ok true ρ' else g ρ'
def mNil : Rho → Rm (List D) := fun ρ => .ok [] ρ
def mCons (f : Rho → Rm D) (g : Rho → Rm (List D)) : Rho → Rm (List D) := fun ρ => (f ρ).bind fun d ρ1 => (g ρ1).bind fun ds ρ2 => .ok (d :: ds) ρ2
def mCall (f : List D → Ri) (ms : List (Option Sh)) (is : List (Option Nat)) (g : Rho → Rs (List D)) : Rho → Rm D := fun ρ => ((g ρ).m ρ).bind fun ds _ => runC (f ds) id ms is ρ
def mPure (f : List D → Rs D) (g : Rho → Rm (List D)) : Rho → Rm D := fun ρ => (g ρ).bind fun ds ρ' => (f ds).m ρ'
def mName (i : Nat) (k : Sh) : Rho → Rm D := fun ρ => match ioD k ρ[i]? with
  | some d => .ok d (ρ.set i .un)
  | none => .stuck
section
variable {S : Sx} {k : Sh} {e a b : Expr} {es rest : List Expr} {f fa fb : Rho → Rm D} {h h2 : Rho → Rm Bool} {g : Rho → Rm (List D)} {pos : Pos}
end
section
variable {S : Sx} {k0 kk : Sh} {n i : Nat} {C a : Addr} {fd : FuncData} {ps ns : List Str} {ms : List (Option Sh)} {is : List (Option Nat)} {f : List D → Ri} {fp : List D → Rs D} {x m y : Str} {p pos apos kpos : Pos} {e : Expr} {es : List Expr} {g : Rho → Rs (List D)} {gm : Rho → Rm (List D)}
abbrev PM (S : Sx) (H0 G0 : Hp) (σ : St) (G : Hp) (k0 : Sh) (Q : VK) (d : D) (ρ' : Rho) : Prop := ∀ v H' G' fp, Ok S H0 G0 σ H' G' ρ' → Same G G' → RT H' G' k0 v d fp → Own H0 σ ρ' H' G' fp → Q v H'
theorem xm_call (F : FnOk S.X.prog S.X.w S.X.K S.X.mg S.X.base (L2.CX S.X.prog S.X.w) n a fd ps (SpI S.ca S.cf k0 ms f)) (gm : S.X.mg x = some (.ref a)) (kp : PySem.W.keepIn S.X.K (.ref a) = true) (hb : Binds S.X.K fd ps []) (hr : Room n S.X.A) (tk : Takes S.X S.W) (ha : XIA S ms is (e :: es) g) (hg : Gl S.X x := by rfl)
    (hdb : (x == ("__debug__" : Str)) = false := by decide) (he : starEach (e :: es) S.X.env = (false, eval e S.X.env) :: starEach es S.X.env := by rfl) (hpl : (backTo pos (starEach es S.X.env)).any (·.1) = false := by rfl) :
    XM S k0 (.Call (.Name x p) (e :: es) [] pos) (mCall f ms is g) :=
  let ⟨t, a1, a2⟩ := ha
  ⟨_, pe_cg (E := WE S.W) F hr hg gm kp hb .nil (fun σ => passAt tk σ) a1 hdb he hpl, fun H0 G0 σ H G ρ Q q w => by
    have w' := wpm_of (P := fun ds ρ' => WpM (runC (f ds) id ms is ρ) (PM S H0 G0 σ G k0 Q) (ExM S H0 G0 σ)) q (WpM.bind w)
    refine a2 H0 G0 σ H G ρ _ q (Wp.imp w' (fun ds wd vs H1 G1 fp a => ?_) fun _ z => z)
    rw [List.append_nil]
    exact ioCall q a wd⟩
def fIoO (C : Addr) (ns : List Str) (i : Nat) (k : Sh) : Rho → Rs D := fun ρ => match ioD k ρ[i]? with
  | some d => match objS C ns d with
    | some _ => .ok d
    | none => .stuck
  | none => .stuck
end

def fDropM (f : Rho → Rm D) : Rho → Out := fun ρ => (f ρ).out fun _ ρ' => .nx ρ'
def fAsgI (i : Nat) (k : Sh) (f : Rho → Rm D) : Rho → Out := fun ρ => (f ρ).out fun d ρ' => .nx (ρ'.set i (slW k d))
def fIfM (c : Rho → Rm Bool) (g h : Rho → Out) : Rho → Out := fun ρ => (c ρ).out fun b ρ' => if b = true then g ρ' else h ρ'
def fRetM' (f : Rho → Rm D) : Rho → Out := fun ρ => (f ρ).out fun d _ => .ret d
def fRetI (ms : List (Option Sh)) (f : Rho → Rm D) : Rho → Out := fun ρ => (f ρ).out fun d ρ' => match Ct.stAt 0 ms ρ' with
  | some ss => .ret (.tuple (d :: ss))
  | none => .stuck
section
variable {S : Sx} {kd : Kd} {k k0 : Sh} {i : Nat} {st : Stmt} {e c : Expr} {f : Rho → Rm D} {h : Rho → Rm Bool} {pos : Pos} {a b : List Stmt} {g1 g2 : Rho → Out} {ms : List (Option Sh)} {vs : List V}
theorem wpm_out {H0 G0 : Hp} {σ : St} {N : Ends} {α : Type} {r : Rm α} {kk : α → Rho → Out} (w : OutP S kd H0 G0 N (r.out kk)) : WpM r (fun d ρ' => OutP S kd H0 G0 N (kk d ρ')) (ExM S H0 G0 σ) := by
  cases r with
  | ok d ρ => exact w
  | exc er ρ => exact fun c dd H' G' q er' => w c dd σ H' G' q er'
  | stuck => exact w
theorem xs_dropM (hp : ∀ te, PE S.X e te → PS S.X st (tDrop te)) (h : XM S k e f) : XS S kd st (fDropM f) :=
  let ⟨_, a1, a2⟩ := h; ⟨_, hp _ a1, fun H0 G0 σ H G ρ N q w =>
    a2 H0 G0 σ H G ρ _ q (WpM.imp (wpm_out w) (fun d ρ' wd v H1 G1 fp q1 s1 r1 o1 => wd σ H1 G1 q1) fun _ _ z => z)⟩
end
theorem fn_bodyJ {P : Program} {w : World} {K : PySem.W.Frag} {mg : Str → Option Value} {base : Heap} {x qual : Str} {st : Stmt} {a : Addr} {fd : FuncData} {N ps : List Str} {k : Nat} {ca : Nat → Addr} {cf : Nat → List Str} {k0 : Sh} {ms : List (Option Sh)} {g : Rho → Out}
    (F : Fun K x qual st a fd) (Sc : FnScope N ps (defScope st)) (hm : ms.length = ps.length)
    (hb : ∀ (vs : List V) (hl : vs.length = ms.length) (cdv : Value) (A : Around) (outer : List PySem.Env) (s : Shared) (H : Hp) (E : XK), Room k (A.deeper (envOfC qual (defScope st) s.heap.objs.size a cdv)) →
      XSs ⟨cxOf (L2.CX P w) P w K mg base N qual (defScope st) a cdv A outer s H E, fun cls d _ H => E cls d H, ca, cf, none, ioOf ms vs⟩ (.i k0 ms vs) (defBody st) g) :
    FnOk P w K mg base (L2.CX P w) (k + 1) a fd ps (SpI ca cf k0 ms (runI ms N.length g)) := by
  refine F.okX Sc (fun vs H Q E h => h.1.trans hm) (fun cdv A outer s H vs Q E hr h => ?_)
  obtain ⟨hl, G, ds, fp, sg, r, nd, w'⟩ := h
  obtain ⟨t, a1, a2⟩ := hb vs hl cdv A outer s H E hr
  refine ⟨t, a1, a2 (cutH H fp) G _ H G _ _ (start_okI sg r nd rfl) ?_⟩
  rw [runI_eq r.len.2] at w'
  have hio : ∀ j k v, ms[j]? = some (some k) → vs[j]? = some v → ioOf ms vs (0 + j) = some v := fun j k v e1 e2 => by
    rw [Nat.zero_add]
    unfold ioOf
    rw [e1]
    exact e2
  cases e : g (startI N.length ms ds) with
  | nx ρ =>
    rw [e] at w'
    intro σ' H' G' q
    unfold Out.resI at w'
    cases es : Ct.stAt 0 ms ρ with
    | none => simp only [es] at w'; exact w'.elim
    | some ss =>
      simp only [es] at w'
      obtain ⟨f1, b1, b2, b3, _⟩ := q.stAt ms 0 vs ss hl.symm hio es
      exact w' .non H' G' [] f1 q.st (.sc rfl .non) b1 b2 fun p hp => cut_or (b3 p hp)
  | ret d =>
    rw [e] at w'
    intro v H' G' s' r'
    obtain ⟨d0, ss, f0, f1, rfl, b1, b2, b3, b4⟩ := r'
    exact w' v H' G' f0 f1 s' b1 b2 b3 fun p hp => cut_or (b4 p hp)
  | exc er ρ =>
    rw [e] at w'
    intro c dd σ' H' G' q er'
    unfold Out.resI at w'
    cases es : Ct.stAt 0 ms ρ with
    | none => simp only [es] at w'; exact w'.elim
    | some ss =>
      simp only [es] at w'
      obtain ⟨f1, b1, b2, b3, _⟩ := q.stAt ms 0 vs ss hl.symm hio es
      exact w' c dd H' G' f1 q.st er' b1 b2 fun p hp => cut_or (b3 p hp)
  | brk ρ => rw [e] at w'; exact w'.elim
  | ct ρ => rw [e] at w'; exact w'.elim
  | stuck => rw [e] at w'; exact w'.elim
end Ct

namespace Ct
open PySem PySem.Spec PyProof.Rows L2
def fRead (C : Addr) (ns : List Str) (i : Nat) (k : Sh) (f : List D → Rs D) (g : Rho → Rs (List D)) : Rho → Rs D := fun ρ => match treeAt ρ i with
  | some (k', d) => if k' = k then (match objS C ns d with
    | some _ => (g ρ).bind fun ds => f (d :: ds)
    | none => .stuck) else .stuck
  | none => .stuck
def fReadE (C : Addr) (ns : List Str) (i : Nat) (k : Sh) (f : List D → Rs D) : Rho → Rs D := fun ρ => match treeAt ρ i with
  | some (k', d) => if k' = k then (match objS C ns d with
    | some _ => noE (f [d])
    | none => .stuck) else .stuck
  | none => .stuck
section
variable {S : Sx} {kd : Kd} {kk : Sh} {n i : Nat} {C a gt pr : Addr} {fd : FuncData} {ps ns : List Str} {f : List D → Rs D} {x m : Str} {p pos apos : Pos} {e : Expr} {es : List Expr} {g : Rho → Rs (List D)}
end
end Ct

namespace Ct
open PySem PySem.Spec PyProof.Rows L2
def fCallBO (f : List D → Rs D) (g : Rho → Rs (List D)) : Rho → Rs D := fun ρ => (g ρ).bind fun as => (noE (f as)).bind fun d => if allSc d = true then .ok d else .stuck
section
variable {S : Sx} {k : Nat} {a C : Addr} {fd : FuncData} {ps : List Str} {f : List D → Rs D} {fi : List D → Ri} {x : Str} {p pos : Pos} {e : Expr} {es : List Expr} {g : Rho → Rs (List D)} {sh : Sh}
end
end Ct

namespace Ct
open PySem L2
@[simp] theorem q_treeAt {ρ : Rho} (i : Nat) : treeAt ρ i = (match ρ[i]? with
  | some (.ot k d) => some (k, d)
  | some (.br k d) => some (k, d)
  | _ => none) := id rfl
@[simp] theorem q_fFld (C : Addr) (ns : List Str) (i m : Nat) {ρ : Rho} : fFld C ns i m ρ = (match treeAt ρ i with
  | some (k, d) => match objS C ns d with
    | some ds => match ds[m]? with
      | some x => if k.node = true ∧ k.at' m = .g then .ok x else .stuck
      | none => .stuck
    | none => .stuck
  | none => .stuck) := id rfl
@[simp] theorem q_fFldS (C : Addr) (ns : List Str) (i m : Nat) {ρ : Rho} : fFldS C ns i m ρ = (match treeAt ρ i with
  | some (k, d) => match objS C ns d with
    | some ds => match ds[m]? with
      | some (.list es) => if k.node = true ∧ k.at' m = .r .g then .ok (.list es) else .stuck
      | _ => .stuck
    | none => .stuck
  | none => .stuck) := id rfl
@[simp] theorem q_fLstOT (C : Addr) (ns : List Str) (i m : Nat) {ρ : Rho} : fLstOT C ns i m ρ = (match treeAt ρ i with
  | some (k, d) => match objS C ns d with
    | some ds => match ds[m]? with
      | some (.list es) => if k.node = true ∧ k.at' m = .r .g then .ok (.list es) else .stuck
      | _ => .stuck
    | none => .stuck
  | none => .stuck) := id rfl
@[simp] theorem q_fRead (C : Addr) (ns : List Str) (i : Nat) (k : Sh) (f : List D → Rs D) (g : Rho → Rs (List D)) {ρ : Rho} : fRead C ns i k f g ρ = (match treeAt ρ i with
  | some (k', d) => if k' = k then (match objS C ns d with
    | some _ => (g ρ).bind fun ds => f (d :: ds)
    | none => .stuck) else .stuck
  | none => .stuck) := id rfl
@[simp] theorem q_fReadE (C : Addr) (ns : List Str) (i : Nat) (k : Sh) (f : List D → Rs D) {ρ : Rho} : fReadE C ns i k f ρ = (match treeAt ρ i with
  | some (k', d) => if k' = k then (match objS C ns d with
    | some _ => noE (f [d])
    | none => .stuck) else .stuck
  | none => .stuck) := id rfl
@[simp] theorem q_fFldPut (C : Addr) (ns : List Str) (i m : Nat) (fe : Rho → Rs D) {ρ : Rho} : fFldPut C ns i m fe ρ = (match ρ[i]? with
  | some (.ot k d) => match objS C ns d with
    | some ds => if k.node = true ∧ k.at' m = .g ∧ m < ds.length then (fe ρ).out ρ fun x => .nx (ρ.set i (.ot k (objD C ns (ds.set m x)))) else .stuck
    | none => .stuck
  | _ => .stuck) := id rfl
@[simp] theorem q_fFldAug (C : Addr) (ns : List Str) (i m : Nat) (fe : Rho → Rs D) {ρ : Rho} : fFldAug C ns i m fe ρ = (match ρ[i]? with
  | some (.ot k d) => match objS C ns d with
    | some ds => match ds[m]? with
      | some (.int a) => if k.node = true ∧ k.at' m = .g then (fe ρ).out ρ fun x => match x with
        | .int b => .nx (ρ.set i (.ot k (objD C ns (ds.set m (.int (a + b))))))
        | _ => .stuck
        else .stuck
      | _ => .stuck
    | none => .stuck
  | _ => .stuck) := id rfl
@[simp] theorem q_fFldExt (C : Addr) (ns : List Str) (i m : Nat) (fe : Rho → Rs (List D)) {ρ : Rho} : fFldExt C ns i m fe ρ = (match ρ[i]? with
  | some (.ot k d) => match objS C ns d with
    | some ds => match ds[m]? with
      | some (.list es) => if k.node = true ∧ k.at' m = .r .g then (fe ρ).out ρ fun as => (mExtend es as).out ρ fun es' => .nx (ρ.set i (.ot k (objD C ns (ds.set m (.list es')))))
        else .stuck
      | _ => .stuck
    | none => .stuck
  | _ => .stuck) := id rfl
@[simp] theorem q_fCallBO (f : List D → Rs D) (g : Rho → Rs (List D)) {ρ : Rho} : fCallBO f g ρ = ((g ρ).bind fun as => (noE (f as)).bind fun d => if allSc d = true then .ok d else .stuck) := id rfl
@[simp] theorem q_fIo (i : Nat) (k : Sh) {ρ : Rho} : fIo i k ρ = (match ioD k ρ[i]? with
  | some d => .ok d
  | none => .stuck) := id rfl
@[simp] theorem q_fIoO (C : Addr) (ns : List Str) (i : Nat) (k : Sh) {ρ : Rho} : fIoO C ns i k ρ = (match ioD k ρ[i]? with
  | some d => match objS C ns d with
    | some _ => .ok d
    | none => .stuck
  | none => .stuck) := id rfl
@[simp] theorem q_ioO (k k' : Sh) (d : D) : ioD k (some (.ot k' d)) = (if k' = k then some d else none) := id rfl
@[simp] theorem q_ioW (k : Sh) (ds : List D) : ioD k (some (.ow ds)) = (if k = .r .g then some (.list ds) else none) := id rfl
@[simp] theorem q_mo {α β : Type} (d : α) (ρ : Rho) (k : α → Rho → Rm β) : (Rm.ok d ρ).bind k = k d ρ := id rfl
@[simp] theorem q_mx {α β : Type} (e : Er) (ρ : Rho) (k : α → Rho → Rm β) : (Rm.exc e ρ : Rm α).bind k = .exc e ρ := id rfl
@[simp] theorem q_mso {α : Type} (d : α) (ρ : Rho) : (Rs.ok d).m ρ = .ok d ρ := id rfl
@[simp] theorem q_msx {α : Type} (e : Er) (ρ : Rho) : (Rs.exc e : Rs α).m ρ = .exc e ρ := id rfl
@[simp] theorem q_moo {α : Type} (d : α) (ρ : Rho) (k : α → Rho → Out) : (Rm.ok d ρ).out k = k d ρ := id rfl
@[simp] theorem q_mox {α : Type} (e : Er) (ρ : Rho) (k : α → Rho → Out) : (Rm.exc e ρ : Rm α).out k = .exc e ρ := id rfl
@[simp] theorem q_mE {α : Type} (f : Rho → Rs α) {ρ : Rho} : mE f ρ = (f ρ).m ρ := id rfl
@[simp] theorem q_mB (f : Rho → Rm D) {ρ : Rho} : mB f ρ = ((f ρ).bind fun d ρ' => match d with
  | .bool b => .ok b ρ'
  | _ => .stuck) := id rfl
@[simp] theorem q_mIsN (f : Rho → Rm D) {ρ : Rho} : mIsN f ρ = ((f ρ).bind fun d ρ' => (toB (fun _ => sIsN d) ρ').m ρ') := id rfl
@[simp] theorem q_mNotN (f : Rho → Rm D) {ρ : Rho} : mNotN f ρ = ((f ρ).bind fun d ρ' => (toB (fun _ => sNotN d) ρ').m ρ') := id rfl
@[simp] theorem q_mNot (f : Rho → Rm Bool) {ρ : Rho} : mNot f ρ = ((f ρ).bind fun b ρ' => .ok (!b) ρ') := id rfl
@[simp] theorem q_mAnd (f g : Rho → Rm Bool) {ρ : Rho} : mAnd f g ρ = ((f ρ).bind fun b ρ' => if b = true then g ρ' else .ok false ρ') := id rfl
@[simp] theorem q_mOr (f g : Rho → Rm Bool) {ρ : Rho} : mOr f g ρ = ((f ρ).bind fun b ρ' => if b = true then .ok true ρ' else g ρ') := id rfl
@[simp] theorem q_mNil {ρ : Rho} : mNil ρ = .ok [] ρ := id rfl
@[simp] theorem q_mCons (f : Rho → Rm D) (g : Rho → Rm (List D)) {ρ : Rho} : mCons f g ρ = ((f ρ).bind fun d ρ1 => (g ρ1).bind fun ds ρ2 => .ok (d :: ds) ρ2) := id rfl
@[simp] theorem q_mCall (f : List D → Ri) (ms : List (Option Sh)) (is : List (Option Nat)) (g : Rho → Rs (List D)) {ρ : Rho} : mCall f ms is g ρ = (((g ρ).m ρ).bind fun ds _ => runC (f ds) id ms is ρ) := id rfl
@[simp] theorem q_mPure (f : List D → Rs D) (g : Rho → Rm (List D)) {ρ : Rho} : mPure f g ρ = ((g ρ).bind fun ds ρ' => (f ds).m ρ') := id rfl
@[simp] theorem q_mName (i : Nat) (k : Sh) {ρ : Rho} : mName i k ρ = (match ioD k ρ[i]? with
  | some d => .ok d (ρ.set i .un)
  | none => .stuck) := id rfl
@[simp] theorem q_rco {α : Type} (d : D) (ss : List D) (g : D → α) (ms : List (Option Sh)) (is : List (Option Nat)) (ρ : Rho) : runC (.ok d ss) g ms is ρ = .ok (g d) (putIo ms is ss (clrI is ρ)) := id rfl
@[simp] theorem q_rcx {α : Type} (e : Er) (ss : List D) (g : D → α) (ms : List (Option Sh)) (is : List (Option Nat)) (ρ : Rho) : runC (.exc e ss) g ms is ρ = .exc e (putIo ms is ss (clrI is ρ)) := id rfl
@[simp] theorem q_cl0 (ρ : Rho) : clrI [] ρ = ρ := id rfl
@[simp] theorem q_cl1 (is : List (Option Nat)) (ρ : Rho) : clrI (none :: is) ρ = clrI is ρ := id rfl
@[simp] theorem q_cl2 (i : Nat) (is : List (Option Nat)) (ρ : Rho) : clrI (some i :: is) ρ = clrI is (ρ.set i .un) := id rfl
@[simp] theorem q_pu0 (is : List (Option Nat)) (ss : List D) (ρ : Rho) : putIo [] is ss ρ = ρ := id rfl
@[simp] theorem q_pu1 (i : Option Nat) (ms : List (Option Sh)) (is : List (Option Nat)) (ss : List D) (ρ : Rho) : putIo (none :: ms) (i :: is) ss ρ = putIo ms is ss ρ := id rfl
@[simp] theorem q_pu2 (k : Sh) (i : Nat) (ms : List (Option Sh)) (is : List (Option Nat)) (s : D) (ss : List D) (ρ : Rho) : putIo (some k :: ms) (some i :: is) (s :: ss) ρ = putIo ms is ss (ρ.set i (slW k s)) := id rfl
@[simp] theorem q_pu3 (k : Sh) (ms : List (Option Sh)) (is : List (Option Nat)) (s : D) (ss : List D) (ρ : Rho) : putIo (some k :: ms) (none :: is) (s :: ss) ρ = putIo ms is ss ρ := id rfl
@[simp] theorem q_sa0 (n : Nat) (ρ : Rho) : stAt n [] ρ = some [] := id rfl
@[simp] theorem q_sa1 (n : Nat) (ms : List (Option Sh)) (ρ : Rho) : stAt n (none :: ms) ρ = stAt (n + 1) ms ρ := id rfl
@[simp] theorem q_sa2 (n : Nat) (k : Sh) (ms : List (Option Sh)) (ρ : Rho) : stAt n (some k :: ms) ρ = (match ioD k ρ[n]? with
  | some d => (stAt (n + 1) ms ρ).map (d :: ·)
  | none => none) := id rfl
@[simp] theorem q_fDropM (f : Rho → Rm D) {ρ : Rho} : fDropM f ρ = ((f ρ).out fun _ ρ' => .nx ρ') := id rfl
@[simp] theorem q_fAsgI (i : Nat) (k : Sh) (f : Rho → Rm D) {ρ : Rho} : fAsgI i k f ρ = ((f ρ).out fun d ρ' => .nx (ρ'.set i (slW k d))) := id rfl
@[simp] theorem q_fIfM (c : Rho → Rm Bool) (g h : Rho → Out) {ρ : Rho} : fIfM c g h ρ = ((c ρ).out fun b ρ' => if b = true then g ρ' else h ρ') := id rfl
@[simp] theorem q_fRetM' (f : Rho → Rm D) {ρ : Rho} : fRetM' f ρ = ((f ρ).out fun d _ => .ret d) := id rfl
@[simp] theorem q_fRetI (ms : List (Option Sh)) (f : Rho → Rm D) {ρ : Rho} : fRetI ms f ρ = ((f ρ).out fun d ρ' => match stAt 0 ms ρ' with
  | some ss => .ret (.tuple (d :: ss))
  | none => .stuck) := id rfl
@[simp] theorem q_rI1 (ms : List (Option Sh)) (d : D) (ss : List D) : Out.resI ms (.ret (.tuple (d :: ss))) = .ok d ss := id rfl
@[simp] theorem q_rI2 (ms : List (Option Sh)) (ρ : Rho) : Out.resI ms (.nx ρ) = (match stAt 0 ms ρ with
  | some ss => .ok .none ss
  | none => .stuck) := id rfl
@[simp] theorem q_rI3 (ms : List (Option Sh)) (e : Er) (ρ : Rho) : Out.resI ms (.exc e ρ) = (match stAt 0 ms ρ with
  | some ss => .exc e ss
  | none => .stuck) := id rfl
abbrev plS : Sh := .c .g (.c (.r .g) (.c (.r .g) (.r .g)))
@[simp] theorem q_pln : Sh.node (.c .g (.c (.r .g) (.c (.r .g) (.r .g)))) = true := id rfl
@[simp] theorem q_pl0 : Sh.at' (.c .g (.c (.r .g) (.c (.r .g) (.r .g)))) 0 = .g := id rfl
@[simp] theorem q_pl1 : Sh.at' (.c .g (.c (.r .g) (.c (.r .g) (.r .g)))) 1 = .r .g := id rfl
@[simp] theorem q_pl2 : Sh.at' (.c .g (.c (.r .g) (.c (.r .g) (.r .g)))) 2 = .r .g := id rfl
@[simp] theorem q_pl3 : Sh.at' (.c .g (.c (.r .g) (.c (.r .g) (.r .g)))) 3 = .g := id rfl
@[simp] theorem q_pl4 : Sh.at' (.c .g (.c (.r .g) (.c (.r .g) (.r .g)))) 4 = .g := id rfl
@[simp] theorem q_pl5 : Sh.at' (.c .g (.c (.r .g) (.c (.r .g) (.r .g)))) 5 = .g := id rfl
@[simp] theorem q_slr (ds : List D) : slW (.r .g) (.list ds) = .ow ds := id rfl
end Ct

namespace Ct
open PySem PySem.Spec PyProof.Rows L2
section
variable {S : Sx} {i k : Nat} {a : Addr} {fd : FuncData} {ps : List Str} {f : List D → Rs D} {x y : Str} {p pos : Pos} {e : Expr} {es : List Expr} {g : Rho → Rs (List D)}
def allN (ds0 : List D) : D → Bool
  | .list es => es.all (noL ds0)
  | _ => false
def fCallNX (i : Nat) (f : List D → Rs D) (g : Rho → Rs (List D)) : Rho → Rs D := fun ρ => match ρ[i]? with
  | some (.ow ds0) => (g ρ).bind fun as => (noE (f as)).bind fun d => if allN ds0 d = true then .ok d else .stuck
  | _ => .stuck
theorem RpL.noL {G0 G : Hp} {p : Addr} {xs : List V} {ds0 : List D} (hp : G p = some (.lst xs)) (r0 : RpL G0 xs ds0) : ∀ {vs : List V} {ds : List D}, RpL G vs ds → ds.all (noL ds0) = true → RpL (delG G p) vs ds
  | _, _, .nil, _ => .nil
  | _, _, .cons a b, h => by
    rw [List.all_cons, Bool.and_eq_true] at h
    exact .cons (a.noL hp r0 h.1) (RpL.noL hp r0 b h.2)
theorem xcallNX (C : Df S.X.prog S.X.w S.X.K S.X.mg S.X.base S.ca S.cf k x a fd ps .o f) (hb : Binds S.X.K fd ps []) (hr : Room k S.X.A) (tk : Takes S.X S.W) (ha : XAi S i (e :: es) g) (hg : Gl S.X x := by rfl)
    (hdb : (x == ("__debug__" : Str)) = false := by decide) (he : starEach (e :: es) S.X.env = (false, eval e S.X.env) :: starEach es S.X.env := by rfl) (hpl : (backTo pos (starEach es S.X.env)).any (·.1) = false := by rfl) :
    XX S .o (.Call (.Name x p) (e :: es) [] pos) (fCallNX i f g) :=
  let ⟨t, a1, a2⟩ := ha
  ⟨_, pe_cg (E := WE S.W) C.ok hr hg C.gm C.kp hb .nil (fun σ => passAt tk σ) a1 hdb he hpl, fun H0 G0 σ H G ρ Q q w => by
    unfold fCallNX at w
    split at w
    · rename_i ds0 eo
      obtain ⟨ov, e1, pp, xs, rfl, h1, h2, h3, h4⟩ := q.sl i _ eo
      refine a2 H0 G0 σ H G ρ _ q pp xs _ e1 eo h1 h2 h4 (Wp.imp (Wp.bind w) (fun ds wd vs H1 G1 s1 r1 => ?_) fun _ z => z)
      rw [List.append_nil]
      have w2 := noE_wp (Wp.bind wd)
      have gp1 : G1 pp = none := s1.sep pp h2 (by rw [h1]; exact Option.some_ne_none _)
      have hp1 := s1.hh _ _ h1
      refine ⟨(RpL.length r1).trans (C.args w2), putG G1 pp xs, ds, putG_sub s1.sub hp1, r1, Wp.imp w2 (fun d wd2 v H2 G2 s2 r3 => ?_) fun _ z => z.elim⟩
      split at wd2
      · rename_i hn
        obtain ⟨r, ws, es', rfl, rfl, k1, k2, k3, k4⟩ := r3
        exact wd2 _ H2 (delG G2 pp) (s1.trans (own_step gp1 s1.sub hp1 s2)) ⟨r, ws, es', rfl, rfl, k1, Same.free s1.hh k2, by unfold delG; split <;> first | rfl | exact k3, RpL.noL (s2.gg _ _ putG_at) h4 k4 hn⟩
      · exact wd2.elim
    · exact w.elim⟩
end
end Ct

namespace Ct
open PySem PySem.Spec PyProof.Rows L2
def pinS (S : Sx) (i : Nat) (v : V) : Sx := { S with io := fun j => if j = i then some v else S.io j }
section
variable {S : Sx} {kd : Kd} {H0 G0 H G : Hp} {σ : St} {ρ : Rho} {i : Nat} {v : V} {N : Ends}
theorem slR_pin {ov : Option V} {s : Sl} : SlR (pinS S i v) H0 H G ov s = SlR S H0 H G ov s := by cases s <;> rfl
theorem Ok.unpin (hio : S.io i = none) (q : Ok (pinS S i v) H0 G0 σ H G ρ) : Ok S H0 G0 σ H G ρ := ⟨q.st, q.len, fun j s es => by
    obtain ⟨ov, a, b⟩ := q.sl j s es
    exact ⟨ov, a, by rw [slR_pin] at b; exact b⟩, q.sep, fun j u s e1 e2 e3 => by
    have ne : j ≠ i := fun z => by rw [z, hio] at e1; cases e1
    exact q.pin j u s (by show (if j = i then some v else S.io j) = _; rw [if_neg ne]; exact e1) e2 e3⟩
theorem OutP.pin (hio : S.io i = none) : ∀ {o : Out}, OutP S kd H0 G0 N o → OutP (pinS S i v) kd H0 G0 N o
  | .nx _, h => fun σ H G q => h σ H G (q.unpin hio)
  | .brk _, h => fun σ H G q => h σ H G (q.unpin hio)
  | .ct _, h => fun σ H G q => h σ H G (q.unpin hio)
  | .ret _, h => h
  | .exc _ _, h => fun c dd σ H G q r => h c dd σ H G (q.unpin hio) r
  | .stuck, h => h
end
end Ct

namespace Ct
open PySem PySem.Spec PyProof.Rows L2
def mInsert (ds as : List D) : Rs (List D) := match as with
  | [.int i, d] => if 0 ≤ i ∧ i < 1000000 ∧ ds.length < sizeLine then .ok (ds.take i.toNat ++ [d] ++ ds.drop i.toNat) else .stuck
  | _ => .stuck
def rInsert : V → List V → Hp → VK → Prop := fun x vs H Q => ∃ (l : Addr) (xs : List V) (i : Int) (y : V), x = .ref l ∧ vs = [.int i, y] ∧ H l = some (.lst xs) ∧ xs.length < sizeLine ∧ 0 ≤ i ∧ i < 2 ^ 63 ∧
    Q .non (upd H l (.lst (xs.take i.toNat ++ [y] ++ xs.drop i.toNat)))
theorem nx_insert (x y : List D) : NoX (mInsert x y) := by unfold mInsert; split <;> first | exact noX_if (noX_ok _) noX_stuck | exact noX_stuck
theorem mu_insert : MuS mInsert rInsert := fun H G p vs ds us as Q h g s hv hu w => by
  unfold mInsert at w
  split at w
  · split at w
    · rename_i hl
      obtain ⟨h0, h1, h2⟩ := hl
      cases hu with
      | cons r1 r2 =>
        cases r2 with
        | cons r3 r4 =>
          cases r4
          cases r1
          exact ⟨p, vs, _, _, rfl, rfl, h, by rw [hv.length]; exact h2, h0, by omega, wp_ok w _ (((hv.take _).append (.cons r3 .nil)).append (hv.drop _)) _⟩
    · exact w.elim
  · exact w.elim
section
variable {S : Sx} {kd : Kd} {i : Nat} {st : Stmt}
theorem xs_insert {fa : Rho → Rs (List D)} {es : List Expr} (hp : ∀ ta, PA S.X es ta → PS S.X st (tDrop (tBM S.X.K "list" rInsert (tVar i) ta))) (h : XA S .e es fa) : XS S kd st (fMut i fa mInsert) :=
  let ⟨_, a1, a2⟩ := h; ⟨_, hp _ a1, ts_mut nx_insert mu_insert a2⟩
end
section
variable {S : Sx} {k : Nat} {a : Addr} {fd : FuncData} {ps : List Str} {kd : Kd} {f : List D → Rs D} {x y : Str} {p pos : Pos} {e : Expr} {es : List Expr} {g : Rho → Rs (List D)}
theorem xcallDB {d : D} (C : Df S.X.prog S.X.w S.X.K S.X.mg S.X.base S.ca S.cf k x a fd ps kd f) (hb : BindD S.X.K fd ps d) (hr : Room k S.X.A) (tk : Takes S.X S.W) (ha : XA S .b (e :: es) g) (hk : kdB kd := by first | exact trivial | rfl) (hg : Gl S.X x := by rfl)
    (hdb : (x == ("__debug__" : Str)) = false := by decide) (he : starEach (e :: es) S.X.env = (false, eval e S.X.env) :: starEach es S.X.env := by rfl) (hpl : (backTo pos (starEach es S.X.env)).any (·.1) = false := by rfl) :
    XX S .b (.Call (.Name x p) (e :: es) [] pos) (fCallDB f d g) := by
  obtain ⟨t, a1, a2⟩ := ha
  obtain ⟨ds', v, hv, hv2, hb⟩ := hb
  refine ⟨_, pe_cg (E := WE S.W) C.ok hr hg C.gm C.kp hb hv2 (fun σ => passAt tk σ) a1 hdb he hpl, fun H0 G0 σ H G ρ Q q w => ?_⟩
  refine a2 H0 G0 σ H G ρ _ q (Wp.imp (Wp.bind w) (fun ds wd vs H1 G1 s1 r1 => ?_) fun _ z => z)
  have r1 : RpL H1 vs ds := r1
  have r2 : RpL H1 (vs ++ [v]) (ds ++ [d]) := RpL.append r1 (.cons (hv H1) .nil)
  have wd := noE_wp wd
  exact sp_callb hk s1 r2 (r2.length.trans (C.args wd)) wd
end

theorem ArgR.step2 {H G H' G' : Hp} (t : Step H G H' G') {ms : List (Option Sh)} {vs : List V} {ds : List D} {f : List Addr} (h : ArgR H G ms vs ds f) : ArgR H' G' ms vs ds f := by
  induction h with
  | nil => exact .nil
  | va r _ ih => exact .va (r.mono t.gg) ih
  | io r _ ih => exact .io (r.step t) ih
def runMk (r : Ri) (ms : List (Option Sh)) (is : List (Option Nat)) (ρ : Rho) : Rm D := match r with
  | .ok .none (s :: ss) => .ok s (putIo ms is ss (clrI is ρ))
  | _ => .stuck
def mMake (C : Addr) (f : List D → Ri) (ms : List (Option Sh)) (is : List (Option Nat)) (g : Rho → Rs (List D)) : Rho → Rm D := fun ρ => ((g ρ).m ρ).bind fun ds _ => runMk (f (objD C [] [] :: ds)) ms is ρ
section
variable {S : Sx} {H0 G0 H G H1 G1 H' G' : Hp} {σ : St} {ρ : Rho}
theorem ioMake {C : Addr} {sh : Sh} {ms : List (Option Sh)} {is : List (Option Nat)} {vs : List V} {ds : List D} {fp : List Addr} {f : List D → Ri} {Q : VK} (hk : sh.node = true) (q : Ok S H0 G0 σ H G ρ) (a : ArgI S H0 σ ρ ms is H G H1 G1 vs ds fp)
    (w : WpM (runMk (f (objD C [] [] :: ds)) ms is ρ) (fun d ρ' => ∀ v H' G' f0, Ok S H0 G0 σ H' G' ρ' → Same G G' → RT H' G' sh v d f0 → Own H0 σ ρ' H' G' f0 → Q v H') (ExM S H0 G0 σ)) : mkSp C (SpI S.ca S.cf .g (some sh :: ms) f) vs H1 Q (WE S.W σ) := by
  intro x dx hx hdx ne
  have hx2 : upd H1 dx (HO.own x) x = none := by rw [upd_ne (Ne.symm ne)]; exact hx
  have same1 : Same H1 (upd (upd H1 dx (.own x)) x (.ins C dx [])) := (same_new hdx).trans (same_new hx2)
  have gx : G1 x = none := Same.free a.st.sub hx
  have gdx : G1 dx = none := Same.free a.st.sub hdx
  obtain ⟨H2, hH2⟩ : ∃ H2, H2 = upd (upd H1 dx (.own x)) x (.ins C dx []) := ⟨_, rfl⟩
  rw [← hH2] at same1 ⊢
  have atx : H2 x = some (.ins C dx []) := by rw [hH2]; exact upd_same
  have st12 : Step H1 G1 H2 G1 := ⟨same1, Same.refl _, a.st.sub.trans same1, fun _ z _ => z⟩
  have r0 : RT H2 G1 sh (.ref x) (objD C [] []) [x] := .ins (fs := []) hk rfl atx gx .nil
  have xfp : x ∉ fp := fun z => (a.ar.own x z).1 hx
  have a' : ArgI S H0 σ ρ (some sh :: ms) (none :: is) H G H2 G1 (.ref x :: vs) (objD C [] [] :: ds) ([x] ++ fp) := ⟨a.st.trans st12, .io r0 (a.ar.step2 st12), List.nodup_append.mpr ⟨nd1, a.nd, fun y hy z hz e => by
      rw [List.mem_singleton.mp hy] at e
      exact xfp (e ▸ hz)⟩, fun p hp => by
      rcases List.mem_append.mp hp with z | z
      · rw [List.mem_singleton.mp z]; exact Same.free (q.st.hh.trans a.st.hh) hx
      · exact a.h0 p z, fun p hp => by
      rcases List.mem_append.mp hp with z | z
      · rw [List.mem_singleton.mp z]; exact .inl (Same.free a.st.hh hx)
      · rcases a.own p z with z | ⟨j, s, m, es, fs⟩
        · exact .inl z
        · exact .inr ⟨j, s, List.mem_cons_of_mem _ m, es, fs⟩, a.pin⟩
  obtain ⟨fp', hfp⟩ : ∃ y, y = [x] ++ fp := ⟨_, rfl⟩
  rw [← hfp] at a'
  have q1 := q.step a'.st
  have qc : Ok S H0 G0 σ H2 G1 (clrI is ρ) := q1.clr
  have sepC : ∀ (j : Nat) (b : Sl) (p : Addr), (clrI is ρ)[j]? = some b → FP H2 G1 σ[j]? p b → p ∉ fp' := fun j b p e f' hp => by
    rcases clr_get e with rfl | ⟨z1, z2⟩
    · exact f'.elim
    · obtain ⟨ov, e1, e2⟩ := q.sl j b z2
      have f2 : FP H G σ[j]? p b := by
        rw [e1] at f' ⊢
        exact f'.back e2 fun _ _ _ _ _ r _ => r.step a'.st
      rcases a'.own p hp with h | ⟨j', s', m, es, fs⟩
      · exact (q.fpIn z2 f2).1 h
      · have m : some j' ∈ is := by
          rcases List.mem_cons.mp m with m | m
          · cases m
          · exact m
        by_cases ej : j = j'
        · subst ej; exact z1 m
        · exact q.sep j j' b s' p ej z2 es f2 fs
  have qx := qc.cutF a'.h0 (fun p hp => (a'.ar.own p hp).2) sepC
  have base : ∀ {H' G' : Hp} {R f1 : List Addr} {ss : List D}, Step (cutH H2 fp') G1 H' G' → IoR H' G' ms vs ss f1 → (R ++ f1).Nodup → (∀ p ∈ R ++ f1, p ∈ fp' ∨ H2 p = none) → Ok S H0 G0 σ H' G' (putIo ms is ss (clrI is ρ)) ∧ ∀ (j : Nat) (b : Sl) (p : Addr), (putIo ms is ss (clrI is ρ))[j]? = some b → FP H' G' σ[j]? p b → p ∉ R := fun {H' G' R f1 ss} t r nd hf => by
    have q' := qx.step t
    refine Ok.put q' r a.pin nd (fun p hp => ?_) fun j b p e f' hp => ?_
    · rcases hf p (List.mem_append_right _ hp) with z | z
      · exact a'.h0 p z
      · exact Same.free q1.st.hh z
    · have f2 : FP (cutH H2 fp') G1 σ[j]? p b := by
        obtain ⟨ov, e1, e2⟩ := qx.sl j b e
        rw [e1] at f' ⊢
        exact f'.back e2 fun _ _ _ _ _ r _ => r.step t
      have inn := (qx.fpIn e f2).1
      rcases hf p hp with z | z
      · exact inn (cut_in z)
      · by_cases zz : p ∈ fp'
        · exact inn (cut_in zz)
        · rw [cut_out zz] at inn
          exact inn z
  refine ⟨by rw [List.length_cons, List.length_cons, a.ar.len.1], G1, _, fp', a'.st.sub, a'.ar, a'.nd, ?_⟩
  unfold runMk at w
  cases e : f (objD C [] [] :: ds) with
  | stuck => rw [e] at w; exact w.elim
  | exc er ss => rw [e] at w; exact w.elim
  | ok d ss =>
    rw [e] at w
    cases d with
    | none =>
      cases ss with
      | nil => exact w.elim
      | cons s0 ss =>
        intro v H' G' f0 f1 t r1 r2 nd hf
        refine ⟨Rp.non_inv r1.to_g, ?_⟩
        cases r2 with
        | @io _ _ _ _ _ _ fa fb r3 r4 =>
          have nd2 := (List.nodup_append.mp nd).2.1
          have hf2 : ∀ p ∈ fa ++ fb, p ∈ fp' ∨ H2 p = none := fun p hp => hf p (List.mem_append_right _ hp)
          obtain ⟨b1, b2⟩ := base t r4 nd2 hf2
          refine w _ H' G' fa b1 (a'.st.gg.trans t.gg) r3 ⟨(List.nodup_append.mp nd2).1, fun p hp => ?_, b2⟩
          rcases hf2 p (List.mem_append_left _ hp) with z | z
          · exact a'.h0 p z
          · exact Same.free q1.st.hh z
    | _ => exact w.elim
end
section
variable {S : Sx} {sh : Sh} {n : Nat} {C a : Addr} {fd : FuncData} {ps : List Str} {ms : List (Option Sh)} {is : List (Option Nat)} {f : List D → Ri} {x : Str} {p pos : Pos} {e : Expr} {es : List Expr} {g : Rho → Rs (List D)}
theorem xm_make (M : Mk S.X.K C a) (F : FnOk S.X.prog S.X.w S.X.K S.X.mg S.X.base (L2.CX S.X.prog S.X.w) n a fd ps (SpI S.ca S.cf .g (some sh :: ms) f)) (hk : sh.node = true) (hm : S.X.mg x = some (.ref C)) (hb : Binds S.X.K fd ps []) (hr : Room (n + 1) S.X.A) (tk : Takes S.X S.W) (ha : XIA S ms is (e :: es) g)
    (hg : Gl S.X x := by rfl) (hdb : (x == ("__debug__" : Str)) = false := by decide) (he : starEach (e :: es) S.X.env = (false, eval e S.X.env) :: starEach es S.X.env := by rfl) (hpl : (backTo pos (starEach es S.X.env)).any (·.1) = false := by rfl) :
    XM S sh (.Call (.Name x p) (e :: es) [] pos) (mMake C f ms is g) :=
  let ⟨t, a1, a2⟩ := ha
  ⟨_, pe_mkg (E := WE S.W) M F hr hg hm hb (fun σ => passAt tk σ) a1 hdb he hpl, fun H0 G0 σ H G ρ Q q w => by
    have w' := wpm_of (P := fun ds ρ' => WpM (runMk (f (objD C [] [] :: ds)) ms is ρ) (PM S H0 G0 σ G sh Q) (ExM S H0 G0 σ)) q (WpM.bind w)
    refine a2 H0 G0 σ H G ρ _ q (Wp.imp w' (fun ds wd vs H1 G1 fp a => ?_) fun _ z => z)
    exact ioMake hk q a wd⟩
end
def fAsgF (i : Nat) (k : Sh) (f : Rho → Rm D) : Rho → Out := fun ρ => (f ρ).out fun d ρ' => .nx (fz i (ρ'.set i (slW k d)))
theorem xs_asgF {S : Sx} {kd : Kd} {k : Sh} {i : Nat} {st : Stmt} {e : Expr} {f : Rho → Rm D} (hp : ∀ te, PE S.X e te → PS S.X st (tAsg te (gName i))) (h : XM S k e f) (hio : S.io i = none := by rfl) : XS S kd st (fAsgF i k f) :=
  let ⟨_, a1, a2⟩ := h; ⟨_, hp _ a1, fun H0 G0 σ H G ρ N q w =>
    a2 H0 G0 σ H G ρ _ q (WpM.imp (wpm_out w) (fun d ρ' wd v H1 G1 fp q1 s1 r1 o1 => by
      obtain ⟨b1, b2⟩ := slW_rel (S := S) (H0 := H0) r1 o1.nd o1.h0
      obtain ⟨G2, _, q3⟩ := (q1.setA b1 (fun j b p ne e f g => o1.sep j b p e g (b2 p f)) fun _ => hio).fz i
      exact wd _ H1 G2 q3) fun _ _ z => z)⟩
end Ct

namespace Ct
open PySem L2
@[simp] theorem q_fCallDB (f : List D → Rs D) (d : D) (g : Rho → Rs (List D)) {ρ : Rho} : fCallDB f d g ρ = ((g ρ).bind fun ds => noE (f (ds ++ [d]))) := id rfl
@[simp] theorem q_rmk (s : D) (ss : List D) (ms : List (Option Sh)) (is : List (Option Nat)) (ρ : Rho) : runMk (.ok .none (s :: ss)) ms is ρ = .ok s (putIo ms is ss (clrI is ρ)) := id rfl
@[simp] theorem q_mMake (C : Addr) (f : List D → Ri) (ms : List (Option Sh)) (is : List (Option Nat)) (g : Rho → Rs (List D)) {ρ : Rho} : mMake C f ms is g ρ = (((g ρ).m ρ).bind fun ds _ => runMk (f (objD C [] [] :: ds)) ms is ρ) := id rfl
@[simp] theorem q_fAsgF (i : Nat) (k : Sh) (f : Rho → Rm D) {ρ : Rho} : fAsgF i k f ρ = ((f ρ).out fun d ρ' => .nx (fz i (ρ'.set i (slW k d)))) := id rfl
theorem q_mIns (ds : List D) (d : D) (h : ds.length < sizeLine) : mInsert ds [.int 0, d] = .ok (d :: ds) := by
  show (if 0 ≤ (0 : Int) ∧ (0 : Int) < 1000000 ∧ ds.length < sizeLine then Rs.ok (ds.take (0 : Int).toNat ++ [d] ++ ds.drop (0 : Int).toNat) else .stuck) = _
  rw [if_pos ⟨by decide, by decide, h⟩]
  rfl
end Ct

namespace Lw
open PySem PySem.Spec PyProof.Rows L2 Ct
def SB : Nat → Nat → Option Bool
  | _, _ => none
abbrev ms_law_change_k22 : List (Option Sh) := [some (.r .g), none, none]
def g_law_change_k22 (pC : Nat) : Rho → Out := (fSeq (fAsg 3 (fBin sMod (fCl (o1 sInt) (aCons (fV 2) aNil)) (fC (.int 5))))
  (fSeq (fIf (toB (fBin sEq (fV 3) (fC (.int 0))))
  (fSet 0 (fV 1) (fC (.int 0)))
  fSkip)
  (fSeq (fIf (toB (fBin sEq (fV 3) (fC (.int 1))))
  (fMut 0 (aCons (fV 1) aNil) mAppend)
  fSkip)
  (fSeq (fIf (toB (fBin sEq (fV 3) (fC (.int 2))))
  (fMut 0 aNil mClear)
  fSkip)
  (fSeq (fIf (toB (fBin sEq (fV 3) (fC (.int 3))))
  (fMut 0 aNil mPop)
  fSkip)
  (fIf (toB (fBin sEq (fV 3) (fC (.int 4))))
  (fSeq (fMut 0 aNil mReverse)
  (fMut 0 (aCons (fC (.int 0)) (aCons (fV 1) aNil)) mInsert))
  fSkip))))))
def f_law_change_k22 (pC : Nat) : List D → Ri := runI ms_law_change_k22 4 (g_law_change_k22 pC)
theorem u_law_change_k22 (pC : Nat) (y0 y1 y2 : D) : f_law_change_k22 pC [y0, y1, y2] = (g_law_change_k22 pC [slW (.r .g) y0, .va y1, .va y2, .un]).resI ms_law_change_k22 := runI_eq rfl
def b_profile_pieces__o_k22_1 : Rho → Out := (fIf (toB (fUn sNotN (fV 4)))
  (fMut 2 (aCons (fTup (aCons (fV 3) (aCons (fBin sIx (fV 4) (fC (.int 0))) (aCons (fBin sIx (fV 4) (fC (.int 1))) (aCons (fBin sIx (fBin sIx (fV 1) (fV 3)) (fC (.int 0))) (aCons (fBin sIx (fBin sIx (fV 1) (fV 3)) (fC (.int 1))) aNil)))))) aNil) mAppend)
  fSkip)
def g_profile_pieces__o_k22 : Rho → Out := (fSeq (fAsg 1 (fCall f_cost_lines (aCons (fV 0) aNil)))
  (fSeq (fAsgO 2 (fLst aNil))
  (fSeq (fFor (iEnu (fCall f_best_ranges (aCons (fV 1) aNil))) (tgT [(tgN 3), (tgN 4)])
  b_profile_pieces__o_k22_1)
  (fRetV 2))))
def f_profile_pieces__o_k22 : List D → Rs D := runB true 1 5 g_profile_pieces__o_k22
theorem u_profile_pieces__o_k22 (y0 : D) : f_profile_pieces__o_k22 [y0] = (g_profile_pieces__o_k22 [.va y0, .un, .un, .un, .un]).res true := runB_eq rfl
abbrev ms_Profile_initJ : List (Option Sh) := [some (.r .g), some (.r .g)]
def g_Profile_initJ (pC : Nat) : Rho → Out := (fSeq (fDrop (fCallDB f_check_periods .none (aCons (fB 1) aNil)))
  (fSeq (fFldNew pC [] "periods" 0 (.g) (fUn sList (fB 1)))
  (fSeq (fFldNew pC ["periods"] "size" 0 (.g) (fCl (o1 sLen) (aCons (fB 1) aNil)))
  (fSeq (fFldNew pC ["periods", "size"] "floor" 0 (.g) (fSc (fCallDB f_least_cost (.int 0) (aCons (fB 1) aNil))))
  (fFldNew pC ["periods", "size", "floor"] "pieces" 0 (.g) (fCallNX 1 f_profile_pieces__o_k22 (aCons (fB 1) aNil)))))))
def f_Profile_initJ (pC : Nat) : List D → Ri := runI ms_Profile_initJ 2 (g_Profile_initJ pC)
theorem u_Profile_initJ (pC : Nat) (y0 y1 : D) : f_Profile_initJ pC [y0, y1] = (g_Profile_initJ pC [slW (.r .g) y0, slW (.r .g) y1]).resI ms_Profile_initJ := runI_eq rfl
def c_law_is_k22_1 (pC : Nat) : Rho → Rs D := (fComp [4] (iLst (fCall f_law_asked (aCons (fV 1) (aCons (fV 2) aNil)))) (tgN 4) fYes (fMethG pC ns_Profile (f_Profile_call pC) (fV 0) (aCons (fV 4) aNil)))
def g_law_is_k22 (pC : Nat) : Rho → Out := (fSeq (fAsg 5 (c_law_is_k22_1 pC))
  (fRet (fCall f_law_same (aCons (fLst (aCons (fLstOG pC ns_Profile 3 (fV 0)) (aCons (fFldG pC ns_Profile 1 (fV 0)) (aCons (fFldG pC ns_Profile 2 (fV 0)) (aCons (fV 5) aNil))))) (aCons (fV 3) aNil)))))
def f_law_is_k22 (pC : Nat) : List D → Rs D := runB false 4 6 (g_law_is_k22 pC)
theorem u_law_is_k22 (pC : Nat) (y0 y1 y2 y3 : D) : f_law_is_k22 pC [y0, y1, y2, y3] = (g_law_is_k22 pC [.va y0, .va y1, .va y2, .va y3, .un, .un]).res false := runB_eq rfl
def g_law_then_k22 (pC : Nat) : Rho → Out := (fSeq (fAsg 3 (fMethG pC ns_Profile (f_Profile_then pC) (fV 0) (aCons (fV 1) aNil)))
  (fRet (fCall f_law_same (aCons (fLst (aCons (fLstOG pC ns_Profile 3 (fV 3)) (aCons (fFldG pC ns_Profile 1 (fV 3)) (aCons (fFldG pC ns_Profile 2 (fV 3)) aNil)))) (aCons (fSlice (fV 2) (fPart none) (fPart (some (fC (.int 3))))) aNil)))))
def f_law_then_k22 (pC : Nat) : List D → Rs D := runB false 3 4 (g_law_then_k22 pC)
theorem u_law_then_k22 (pC : Nat) (y0 y1 y2 : D) : f_law_then_k22 pC [y0, y1, y2] = (g_law_then_k22 pC [.va y0, .va y1, .va y2, .un]).res false := runB_eq rfl
def b_law_k22_1 (pC : Nat) : Rho → Out := (fSeq (fIf (fNot (toB (fCall (f_law_is_k22 pC) (aCons (fV 16) (aCons (fV 13) (aCons (fV 7) (aCons (fV 14) aNil)))))))
  (fRet (fC (.bool false)))
  fSkip)
  (fSeq (fIf (fNot (toB (fCall f_law_same (aCons (fLst (aCons (fMethG pC ns_Profile (f_Profile_call pC) (fV 12) (aCons (fC (.int 5)) aNil)) (aCons (fMethG pC ns_Profile (f_Profile_call pC) (fV 12) (aCons (fC (.int 0)) aNil)) aNil))) (aCons (fLst (aCons (fV 10) (aCons (fBin sIx (fV 8) (fC (.int 2))) aNil))) aNil)))))
  (fRet (fC (.bool false)))
  fSkip)
  (fIf (fOr (fNot (toB (fCall (f_law_is_k22 pC) (aCons (fV 12) (aCons (fV 4) (aCons (fV 7) (aCons (fV 8) aNil))))))) (fNot (toB (fCall (f_law_then_k22 pC) (aCons (fV 12) (aCons (fV 5) (aCons (fV 9) aNil)))))))
  (fRet (fC (.bool false)))
  fSkip)))
def g_law_k22 (pC : Nat) : Rho → Out := (fSeq (fAsgT (tgT [(tgN 1), (tgN 2), (tgN 3)]) (fCall f_law_shape (aCons (fV 0) (aCons (fC (.int 12)) aNil))))
  (fSeq (fAsg 4 (fCall f_law_periods (aCons (fV 0) (aCons (fC (.int 4)) (aCons (fCall f_law_grown (aCons (fV 0) (aCons (fBin sAdd (fV 2) (fV 3)) aNil))) (aCons (fV 1) aNil))))))
  (fSeq (fAsg 5 (fCall f_law_period (aCons (fCall f_law_number (aCons (fV 0) (aCons (fC (.int 1)) aNil))) (aCons (fV 1) aNil))))
  (fSeq (fAsg 6 (fCall f_law_number (aCons (fV 0) (aCons (fC (.int 3)) aNil))))
  (fSeq (fAsg 7 (fLst (aCons (fC (.int 0)) (aCons (fC (.int 1)) (aCons (fBin sAdd (fC (.int 1)) (fBin sMod (fCl (o1 sInt) (aCons (fV 6) aNil)) (fC (.int 100)))) (aCons (fBin sAdd (fC (.int 1)) (fBin sMod (fCl (o1 sInt) (aCons (fBin sDiv (fV 6) (fC (.int 100))) aNil)) (fC (.int (10 ^ 40))))) aNil))))))
  (fSeq (fAsg 8 (fCall f_law_due (aCons (fV 4) (aCons (fV 7) aNil))))
  (fSeq (fAsg 9 (fCall f_law_due (aCons (fBin sAdd (fV 4) (fLst (aCons (fV 5) aNil))) (aCons (fV 7) aNil))))
  (fSeq (fAsg 10 (fCall f_law_least (aCons (fV 4) (aCons (fC (.int 5)) aNil))))
  (fSeq (fAsgO 11 (fUn sList (fV 4)))
  (fSeq (fAsgF 12 (.r .g) (mMake pC (f_Profile_initJ pC) [some (.r .g)] [some 11] (aCons (fIo 11 (.r .g)) aNil)))
  (fSeq (fIf (fOr (fNot (toB (fCall (f_law_is_k22 pC) (aCons (fV 12) (aCons (fV 4) (aCons (fV 7) (aCons (fV 8) aNil))))))) (fNot (toB (fCall (f_law_then_k22 pC) (aCons (fV 12) (aCons (fV 5) (aCons (fV 9) aNil)))))))
  (fRet (fC (.bool false)))
  fSkip)
  (fSeq (fDropM (mCall (f_law_change_k22 pC) ms_law_change_k22 [some 11, none, none] (aCons (fIo 11 (.r .g)) (aCons (fV 5) (aCons (fCall f_law_number (aCons (fV 0) (aCons (fC (.int 2)) aNil))) aNil)))))
  (fSeq (fAsg 13 (fUn sList (fB 11)))
  (fSeq (fAsg 14 (fCall f_law_due (aCons (fV 13) (aCons (fV 7) aNil))))
  (fSeq (fAsgO 15 (fLstOG pC ns_Profile 3 (fV 12)))
  (fSeq (fMut 15 aNil mClear)
  (fSeq (fIf (fOr (fNot (toB (fCall (f_law_is_k22 pC) (aCons (fV 12) (aCons (fV 4) (aCons (fV 7) (aCons (fV 8) aNil))))))) (fNot (toB (fCall (f_law_then_k22 pC) (aCons (fV 12) (aCons (fV 5) (aCons (fV 9) aNil)))))))
  (fRet (fC (.bool false)))
  fSkip)
  (fSeq (fAsgF 16 (.r .g) (mMake pC (f_Profile_initJ pC) [some (.r .g)] [some 11] (aCons (fIo 11 (.r .g)) aNil)))
  (fSeq (fIf (fNot (toB (fCallB f_law_same (aCons (fB 11) (aCons (fV 13) aNil)))))
  (fRet (fC (.bool false)))
  fSkip)
  (fSeq (fMut 11 aNil mClear)
  (fSeq (fFor (iRg1 (aCons (fC (.int 2)) aNil)) (tgN 17)
  (b_law_k22_1 pC))
  (fRet (fC (.bool true))))))))))))))))))))))))
def f_law_k22 (pC : Nat) : List D → Rs D := runB false 1 18 (g_law_k22 pC)
theorem u_law_k22 (pC : Nat) (y0 : D) : f_law_k22 pC [y0] = (g_law_k22 pC [.va y0, .un, .un, .un, .un, .un, .un, .un, .un, .un, .un, .un, .un, .un, .un, .un, .un, .un]).res false := runB_eq rfl
end Lw

namespace Lw
open PySem Ct L2
theorem piecesO_ok (l : List Per) (hg : Gds l) (hl : l.length ≤ 400) : f_profile_pieces__o_k22 [rowsD l] = .ok (pcsD l) := by
  rw [u_profile_pieces__o_k22]
  unfold g_profile_pieces__o_k22
  have bb : b_profile_pieces__o_k22_1 = b_profile_pieces_1 := rfl
  rw [bb]
  have li := lines_ok l hg (by omega)
  have rg := ranges_ok (lnl l) (lnl_dec hg (by omega)) (by rw [lnl_len]; omega)
  rw [← lnl_D] at rg
  obtain ⟨t3, t4, e⟩ := prof_loop l (by omega) (rngsA [] (lnl l)) 0 [] .un .un (by rw [rngsA_len, lnl_len]; omega) (by simp)
  have en : kEnu (.list ((rngsA [] (lnl l)).map rD)) = .ok (enumD 0 ((rngsA [] (lnl l)).map rD)) := id rfl
  have fin : PyData.list ((pcA 0 (rngsA [] (lnl l))).map (pcD l)) = pcsD l := rfl
  rw [List.nil_append, List.map_nil] at e
  generalize (pcA 0 (rngsA [] (lnl l))).map (pcD l) = A at *
  generalize PyData.list ((rngsA [] (lnl l)).map rD) = RL at *
  generalize enumD 0 ((rngsA [] (lnl l)).map rD) = E at *
  simp [li, rg, en, e, fin]
theorem allN_pcs (l : List Per) (ds : List D) : allN ds (pcsD l) = true := by
  show ((pcs l).map (pcD l)).all (noL ds) = true
  rw [List.all_map, List.all_eq_true]
  intro p _
  obtain ⟨j, lo, hi⟩ := p
  cases hi <;> rfl
theorem initJ_ok (pC : Nat) (l : List Per) (hg : Gds l) (hl : l.length ≤ 400) : f_Profile_initJ pC [objD pC [] [], rowsD l] = .ok .none [prD pC l, rowsD l] := by
  have ow : slW (.r .g) (rowsD l) = .ow (l.map pd) := rfl
  rw [u_Profile_initJ, slW_obr, ow]
  unfold g_Profile_initJ
  have ck := check_ok l hg
  have b0 : (0 : Int) ≤ 1000000 * BC := by decide
  have lc := least_cost_ok l 0 hg (by omega) (by omega) b0 (fun h => by omega)
  have pc := piecesO_ok l hg (by omega)
  have an := allN_pcs l (l.map pd)
  have r1 : rowsD l = .list (l.map pd) := rfl
  have ln : ((l.map pd).length : Int) = (l.length : Int) := by simp
  have d0 : prD pC l = objD pC ["periods", "size", "floor", "pieces"] [rowsD l, .int (l.length : Int), .int (LC l 0), pcsD l] := rfl
  have cx : ∀ x : Sl, fCallNX 1 f_profile_pieces__o_k22 (aCons (fB 1) aNil) [x, .ow (l.map pd)] = .ok (pcsD l) := by
    intro x
    rw [r1] at pc
    unfold fCallNX
    generalize pcsD l = R at *
    generalize l.map pd = P at *
    simp [pc, an]
  rw [d0]
  rw [r1] at ck lc ⊢
  generalize pcsD l = R at *
  generalize LC l 0 = c at *
  generalize (l.length : Int) = n at *
  generalize l.map pd = P at *
  simp [fldNewP, ck, lc, cx, ln, ms_Profile_initJ]
theorem is22_ok (pC : Nat) (l : List Per) (fs : List Int) (hg : Gds l) (hl : l.length ≤ 64) (hf : ∀ e ∈ fs, 0 ≤ e ∧ e ≤ 1000000 * BC) (hn : fs.length ≤ 100) : f_law_is_k22 pC [prD pC l, rowsD l, intsL fs, dueT l fs] = .ok (.bool true) := by
  rw [u_law_is_k22]
  unfold g_law_is_k22
  have b1 := BC_big
  have b2 := BB_pos
  have lq := LC_asked (l := l) (by omega) hf
  have al : (ask l fs).length ≤ 100 := by unfold ask; split <;> simp [hn]
  have cc : c_law_is_k22_1 pC [.va (prD pC l), .va (rowsD l), .va (intsL fs), .va (dueT l fs), .un, .un] = .ok (intsL ((ask l fs).map (LC l))) := by
    unfold c_law_is_k22_1
    have a := ask_ok l fs
    have ie : intsL ((ask l fs).map (LC l)) = .list ((ask l fs).map fun e => PyData.int (LC l e)) := by simp [intsL, List.map_map, Function.comp_def]
    rw [ie]
    refine comp_list (fun e => PyData.int e) (fun e => PyData.int (LC l e)) (ask l fs) (by omega) (by simp [a]) rfl fun e he => ⟨_, rfl, ?_⟩
    obtain ⟨q1, q2, q3⟩ := lq e he
    have c := call_at pC l e hg (by omega) q1 q2 q3
    simp [c]
  have s := same_pl 3 (pl_due l fs (by omega) hn)
  have d : dueT l fs = .list [pcsD l, .int (l.length : Int), .int (LC l 0), intsL ((ask l fs).map (LC l))] := rfl
  have pe : pcsD l = .list ((pcs l).map (pcD l)) := rfl
  rw [d, pe] at s
  rw [d, pe] at cc
  rw [d, pe]
  generalize intsL ((ask l fs).map (LC l)) = K at *
  have os := objS_pr pC l
  rw [pe] at os
  generalize prD pC l = Q at *
  generalize (pcs l).map (pcD l) = W at *
  simp [cc, s, os]
theorem then22_ok (pC : Nat) (l : List Per) (x : Per) (fs : List Int) (hg : Gds (l ++ [x])) (hl : l.length ≤ 64) : f_law_then_k22 pC [prD pC l, pd x, dueT (l ++ [x]) fs] = .ok (.bool true) := by
  rw [u_law_then_k22]
  unfold g_law_then_k22
  have th := then_ok pC l x hg (by omega)
  have ln : (l ++ [x]).length ≤ 1000 := by simp; omega
  generalize l ++ [x] = m at *
  have d : kSlice (dueT m fs) none (some 3) = .ok (.list [pcsD m, .int (m.length : Int), .int (LC m 0)]) := by
    show Rs.ok (PyData.list (cutD [pcsD m, .int (m.length : Int), .int (LC m 0), intsL ((ask m fs).map (LC m))] none (some ((3 : Nat) : Int)))) = _
    rfl
  have sa : f_law_same [.list [pcsD m, .int (m.length : Int), .int (LC m 0)], .list [pcsD m, .int (m.length : Int), .int (LC m 0)]] = .ok (.bool true) := same_pl 3 (by
    have p1 := pl_pcs m ln
    unfold PlN
    refine ⟨by simp, fun d hd => ?_⟩
    simp at hd
    rcases hd with rfl | rfl | rfl
    · exact p1
    · simp [PlN]
    · simp [PlN])
  have pe : pcsD m = .list ((pcs m).map (pcD m)) := rfl
  have os := objS_pr pC m
  have os0 := objS_pr pC l
  rw [pe] at d sa os
  generalize prD pC m = Q at *
  generalize prD pC l = Q0 at *
  generalize dueT m fs = T at *
  generalize (pcs m).map (pcD m) = W at *
  simp [th, os, os0, d, sa]
theorem change_ok (pC : Nat) (l : List Per) (x : Per) (n : Int) (hg : ∀ p ∈ l, Good p) (hx : Good x) (hp : l ≠ []) (hl : l.length ≤ 60) : ∃ m : List Per, (∀ p ∈ m, Good p) ∧ m.length ≤ 61 ∧ f_law_change_k22 pC [rowsD l, pd x, .int n] = .ok .none [rowsD m] := by
  have m5 : sMod (.int n) (.int 5) = .ok (.int (n % 5)) := q_sMod (by decide)
  have ow : slW (.r .g) (rowsD l) = .ow (l.map pd) := rfl
  rw [u_law_change_k22, ow]
  unfold g_law_change_k22
  have hz : (l.map pd).length < sizeLine := lt_size (by rw [List.length_map]; omega)
  obtain ⟨y, r, rfl⟩ : ∃ y r, l = y :: r := by
    cases l with
    | nil => exact absurd rfl hp
    | cons y r => exact ⟨y, r, rfl⟩
  have k0 : 0 ≤ n % 5 := Int.emod_nonneg _ (by decide)
  have k1 : n % 5 < 5 := Int.emod_lt_of_pos _ (by decide)
  have ms : ∀ m : List Per, rowsD m = .list (m.map pd) := fun _ => rfl
  by_cases z0 : n % 5 = 0
  · refine ⟨x :: r, fun p h => ?_, by simp at hl ⊢; omega, ?_⟩
    · rcases List.mem_cons.mp h with rfl | h
      · exact hx
      · exact hg p (List.mem_cons_of_mem _ h)
    · rw [ms, List.map_cons, List.map_cons]
      generalize pd x = px at *
      generalize pd y = py at *
      generalize r.map pd = rm at *
      have ix : ixN (rm.length + 1) 0 = some 0 := by unfold ixN; simp
      simp [m5, z0, ix, ms_law_change_k22]
  · by_cases z1 : n % 5 = 1
    · refine ⟨(y :: r) ++ [x], fun p h => ?_, by simp at hl ⊢; omega, ?_⟩
      · rcases List.mem_append.mp h with h | h
        · exact hg p h
        · rw [List.mem_singleton.mp h]; exact hx
      · rw [ms, List.map_append, List.map_singleton]
        generalize (y :: r).map pd = rm at *
        generalize pd x = px at *
        simp [m5, z1, hz, ms_law_change_k22]
    · by_cases z2 : n % 5 = 2
      · refine ⟨[], (fun p h => by cases h), by simp, ?_⟩
        have mc : ∀ ds, mClear ds [] = .ok [] := fun _ => rfl
        have e : rowsD [] = .list [] := rfl
        rw [e]
        generalize (y :: r).map pd = rm at *
        generalize pd x = px at *
        simp [m5, z2, mc, ms_law_change_k22]
      · by_cases z3 : n % 5 = 3
        · refine ⟨(y :: r).dropLast, fun p h => hg p (List.dropLast_subset _ h), by rw [List.length_dropLast]; omega, ?_⟩
          have mp : mPop ((y :: r).map pd) [] = .ok (((y :: r).dropLast).map pd) := by
            rw [List.map_dropLast]
            rfl
          rw [ms]
          generalize ((y :: r).dropLast).map pd = rn at *
          generalize (y :: r).map pd = rm at *
          generalize pd x = px at *
          simp [m5, z3, mp, ms_law_change_k22]
        · have z4 : n % 5 = 4 := by omega
          refine ⟨x :: (y :: r).reverse, fun p h => ?_, by simp at hl ⊢; omega, ?_⟩
          · rcases List.mem_cons.mp h with rfl | h
            · exact hx
            · exact hg p (List.mem_reverse.mp h)
          · have mr : mReverse ((y :: r).map pd) [] = .ok ((y :: r).map pd).reverse := rfl
            have mi := q_mIns ((y :: r).map pd).reverse (pd x) (by rw [List.length_reverse]; exact hz)
            rw [ms, show (x :: (y :: r).reverse).map pd = pd x :: ((y :: r).map pd).reverse by rw [List.map_cons, List.map_reverse]]
            generalize ((y :: r).map pd).reverse = rn at *
            generalize (y :: r).map pd = rm at *
            generalize pd x = px at *
            simp [m5, z4, mr, mi, ms_law_change_k22]
theorem law_true (pC : Nat) (ns : List Int) (h : ns.length ≤ 63) (hb : ∀ z ∈ ns, Builtin.Int.intBits z ≤ 1048576) : f_law_k22 pC [scriptD ns] = .ok (.bool true) := by
  obtain ⟨sc, kn, la, h1, h2, h3, h4, h5, e1⟩ := shape_is ns 12 (by decide)
  obtain ⟨c3, c30, e3⟩ := number_is ns 3 (by decide) (by decide)
  obtain ⟨c2, c20, e2⟩ := number_is ns 2 (by decide) (by decide)
  obtain ⟨c1, c10, e11⟩ := number_is ns 1 (by decide) (by decide)
  obtain ⟨g, g0, g1, eg⟩ := grown_ok ns (kn + la) (by omega)
  have m100 : ∀ i : Int, sMod (.int i) (.int 100) = .ok (.int (i % 100)) := fun i => q_sMod (by decide)
  have m40 : ∀ i : Int, sMod (.int i) (.int 10000000000000000000000000000000000000000) = .ok (.int (i % 10000000000000000000000000000000000000000)) := fun i => q_sMod (by decide)
  have d100 := dv_ok c3 100 (by decide) (by unfold Sm; omega)
  obtain ⟨l, hl0, hgo, e4⟩ := periods_is ns 4 g sc (by decide) (by decide) (by omega) (by omega) h1 h2
  obtain ⟨x, hx, ex⟩ := period_is c1 sc h1 h2
  have lp : l ≠ [] := List.length_pos_iff.mp (by omega)
  have gx : ∀ p ∈ l ++ [x], Good p := fun p hp => by
    rcases List.mem_append.mp hp with hp | hp
    · exact hgo p hp
    · rw [List.mem_singleton.mp hp]; exact hx
  obtain ⟨m, gm, lm, em⟩ := change_ok pC l x c2 hgo hx lp (by omega)
  have b1 := BC_big
  have b2 := BB_pos
  have b3 := BB_le 60
  obtain ⟨fs, hfs⟩ : ∃ fs : List Int, fs = [0, 1, 1 + c3 % 100, 1 + c3 / 100 % 10000000000000000000000000000000000000000] := ⟨_, rfl⟩
  have fd : PyData.list [.int 0, .int 1, .int (1 + c3 % 100), .int (1 + c3 / 100 % 10000000000000000000000000000000000000000)] = intsL fs := by rw [hfs]; rfl
  have fl : fs.length ≤ 100 := by rw [hfs]; simp
  have fb : ∀ e ∈ fs, 0 ≤ e ∧ e ≤ 1000000 * BC := by
    rw [hfs]
    intro e he
    simp at he
    rcases he with rfl | rfl | rfl | rfl <;> omega
  clear hfs
  have a1 : sAdd (rowsD l) (.list [pd x]) = .ok (rowsD (l ++ [x])) := add_rows (m := [x]) (by simp; omega)
  have g0' := Gds.of hgo
  have g1' := Gds.of gx
  have g2' := Gds.of gm
  have n1 : (l ++ [x]).length ≤ 64 := by simp; omega
  have u0 := due_ok l fs g0' (Sml.of hgo) (by omega) fb fl
  have u1 := due_ok (l ++ [x]) fs g1' (Sml.of gx) n1 fb fl
  have u2 := due_ok m fs g2' (Sml.of gm) (by omega) fb fl
  have i0 := is22_ok pC l fs g0' (by omega) fb fl
  have i2 := is22_ok pC m fs g2' (by omega) fb fl
  have t1 := then22_ok pC l x fs g1' (by omega)
  have mk := initJ_ok pC l g0' (by omega)
  have mk2 := initJ_ok pC m g2' (by omega)
  have l5 := law_least_ok l 5 g0' (by omega) (by decide) (by omega) fun _ => lp
  have c5 := call_at pC l 5 g0' (by omega) (by decide) (by omega) fun _ => lp
  have c0 := call_at pC l 0 g0' (by omega) (by decide) (by omega) fun _ => lp
  have sm := same_rows m (by omega)
  have sL := lst_rows l
  have sM := lst_rows m
  have d2 : sIx (dueT l fs) (.int 2) = .ok (.int (LC l 0)) := rfl
  have s2 : f_law_same [.list [.int (LC l 5), .int (LC l 0)], .list [.int (LC l 5), .int (LC l 0)]] = .ok (.bool true) := same_pl 1 (by simp [PlN])
  have r1 : rowsD l = .list (l.map pd) := rfl
  have r2 : rowsD m = .list (m.map pd) := rfl
  have pe : pcsD l = .list ((pcs l).map (pcD l)) := rfl
  have mc : ∀ ds, mClear ds [] = .ok [] := fun _ => rfl
  have o1 := objS_pr pC l
  have o2 := objS_pr pC m
  have rg := rg1_map 2 (by omega)
  have rr : (List.range 2).map (fun k : Nat => PyData.int (k : Int)) = [.int 0, .int 1] := rfl
  rw [rr] at rg
  have w0 : slW (.r .g) (prD pC l) = .ot (.r .g) (prD pC l) := rfl
  have w2 : slW (.r .g) (prD pC m) = .ot (.r .g) (prD pC m) := rfl
  rw [u_law_k22]
  unfold g_law_k22
  rw [pe] at o1
  have bd : ∀ s0 s1 s2 s3 s6 s11 s15 s17, b_law_k22_1 pC [s0, s1, s2, s3, .va (rowsD l), .va (pd x), s6, .va (intsL fs), .va (dueT l fs), .va (dueT (l ++ [x]) fs), .va (.int (LC l 5)), s11, .va (prD pC l), .va (rowsD m), .va (dueT m fs), s15, .va (prD pC m), s17] = .nx [s0, s1, s2, s3, .va (rowsD l), .va (pd x), s6, .va (intsL fs), .va (dueT l fs), .va (dueT (l ++ [x]) fs), .va (.int (LC l 5)), s11, .va (prD pC l), .va (rowsD m), .va (dueT m fs), s15, .va (prD pC m), s17] := by
    intros
    unfold b_law_k22_1
    generalize prD pC l = Q0 at *
    generalize prD pC m = Q2 at *
    generalize dueT l fs = D0 at *
    generalize dueT (l ++ [x]) fs = D1 at *
    generalize dueT m fs = D2 at *
    generalize LC l 5 = v5 at *
    generalize LC l 0 = v0 at *
    generalize rowsD m = RM at *
    generalize rowsD l = RL at *
    simp [i0, i2, t1, c5, c0, o1, d2, s2]
  generalize (pcs l).map (pcD l) = W at *
  generalize pcsD m = W2 at *
  rw [r1] at mk em sL a1 u0 i0 l5 e4 o1 bd
  rw [r2] at mk2 em sM sm u2 i2 o2 bd
  generalize prD pC l = Q0 at *
  generalize prD pC m = Q2 at *
  generalize dueT l fs = D0 at *
  generalize dueT (l ++ [x]) fs = D1 at *
  generalize dueT m fs = D2 at *
  generalize rowsD (l ++ [x]) = R1 at *
  generalize l.map pd = RL at *
  generalize m.map pd = RM at *
  generalize LC l 5 = v5 at *
  generalize LC l 0 = v0 at *
  simp [e1, eg, e4, e3, e2, e11, m100, m40, d100, ex, fd, a1, u0, u1, u2, l5, mk, mk2, w0, w2, i0, t1, em, mc, o1, o2, sm, rg, loopS, bd, ms_law_change_k22]
end Lw

namespace Lw
open PySem PySem.Spec PyProof.Rows L2 Ct
abbrev topS (i : Nat) : Stmt := PySem.Challenge.pw_laterwants_k22_profile_keeps_a_copy.main.body.getD i (.Pass ⟨0, 0, 0, 0⟩)
abbrev clsS (i j : Nat) : Stmt := match topS i with | .ClassDef _ _ _ b _ _ _ _ _ _ _ => b.getD j (.Pass ⟨0, 0, 0, 0⟩) | s => s
structure Ox_Profile (K : PySem.W.Frag) (mg : Str → Option Value) (pC : Addr) (a_Profile_init a_Profile_initJ a_Profile_call a_Profile_iter a_Profile_then : Addr) : Prop where
  gm : mg "Profile" = some (.ref pC)
  cl : ClO K pC ns_Profile
  made : Mk K pC a_Profile_init
  madeJ : Mk K pC a_Profile_initJ
  co : StX.CallO K pC a_Profile_call
  it : ItF K pC a_Profile_iter
  m_then : Meth K pC "then" a_Profile_then
structure Bl (mg : Str → Option Value) : Prop where
  b_abs : mg "abs" = none
  b_bool : mg "bool" = none
  b_enumerate : mg "enumerate" = none
  b_int : mg "int" = none
  b_isinstance : mg "isinstance" = none
  b_iter : mg "iter" = none
  b_len : mg "len" = none
  b_list : mg "list" = none
  b_max : mg "max" = none
  b_min : mg "min" = none
  b_range : mg "range" = none
  b_reversed : mg "reversed" = none
  b_sum : mg "sum" = none
  b_tuple : mg "tuple" = none
structure Tx (prog : Program) (K : PySem.W.Frag) (mg : Str → Option Value) (ca : Nat → Addr) : Prop where
  gm_InvalidPeriod : mg "InvalidPeriod" = some (.ref (ca 0))
  x_InvalidPeriod : ExF prog K mg (ca 0) "InvalidPeriod" ["index"]
  gm_SetupAboveCap : mg "SetupAboveCap" = some (.ref (ca 1))
  x_SetupAboveCap : ExF prog K mg (ca 1) "SetupAboveCap" ["index"]
  gm_NoPeriods : mg "NoPeriods" = some (.ref (ca 2))
  q_NoPeriods : PySem.W.excIn K (ca 2) [.type "ValueError", .type "Exception", .type "BaseException", .type "object"] "ValueError.__new__" = true
  kp_NoPeriods : PySem.W.keepIn K (.ref (ca 2)) = true
  sb_NoPeriods : PySem.W.subIn K (.ref (ca 2)) (.type "BaseException") = some true
  ty_NoPeriods : PySem.W.typeIn K (.ref (ca 2)) = some (.type "type")
  gm_InvalidEnding : mg "InvalidEnding" = some (.ref (ca 7))
  q_InvalidEnding : PySem.W.excIn K (ca 7) [.type "ValueError", .type "Exception", .type "BaseException", .type "object"] "ValueError.__new__" = true
  kp_InvalidEnding : PySem.W.keepIn K (.ref (ca 7)) = true
  sb_InvalidEnding : PySem.W.subIn K (.ref (ca 7)) (.type "BaseException") = some true
  ty_InvalidEnding : PySem.W.typeIn K (.ref (ca 7)) = some (.type "type")
  sub : SubOk K ca SB
abbrev s_check_periods : Stmt := topS 7
abbrev N_check_periods : List Str := ["periods", "cap", "index", "demand", "setup", "hold"]
theorem sc_check_periods : FnScope N_check_periods ["periods", "cap"] (defScope s_check_periods) := ⟨rfl, rfl, rfl, by decide +kernel, rfl, by decide +kernel, by decide +kernel⟩
theorem ok_check_periods {P : Program} {w : World} {K : PySem.W.Frag} {mg : Str → Option Value} {base : Heap} {ca : Nat → Addr} {a : Addr} {fd : FuncData} (F : Fun K "check_periods" "check_periods" s_check_periods a fd) (B : Bl mg) (T : Tx P K mg ca)  : FnOk P w K mg base (L2.CX P w) 1 a fd ["periods", "cap"] (SpF ca cfG .e 2 f_check_periods) :=
  fn_body F sc_check_periods fun cdv A outer s H E hr => by
    have hu := hr.units
    have tk0 := tk_of (P := P) (w := w) (K := K) (mg := mg) (base := base) (N := N_check_periods) (qual := "check_periods") (sc := defScope s_check_periods) (f := a) (cd := cdv) (A := A) (outer := outer) (s := s) (H := H) (E := E)
    have pa0 := pa_of (P := P) (w := w) (K := K) (mg := mg) (base := base) (N := N_check_periods) (qual := "check_periods") (sc := defScope s_check_periods) (f := a) (cd := cdv) (A := A) (outer := outer) (s := s) (H := H) (E := E)
    exact (xss_cons (xs_for (fun _ _ _ hi hg hb => ps_for pa0 rfl hi hg hb) (xi_enum (fun _ h => pi_enum rfl B.b_enumerate (pa_cons h pa_nil)) (xv 0)) (xg_tup (fun _ h => pg_tup rfl h) rfl (xgs_cons (xg_name 2 (pg_name (i := 2) sc_check_periods.nd rfl (by first | exact Or.inl rfl | exact Or.inr rfl))) (xgs_cons (xg_tup (fun _ h => pg_tup rfl h) rfl (xgs_cons (xg_name 3 (pg_name (i := 3) sc_check_periods.nd rfl (by first | exact Or.inl rfl | exact Or.inr rfl))) (xgs_cons (xg_name 4 (pg_name (i := 4) sc_check_periods.nd rfl (by first | exact Or.inl rfl | exact Or.inr rfl))) (xgs_cons (xg_name 5 (pg_name (i := 5) sc_check_periods.nd rfl (by first | exact Or.inl rfl | exact Or.inr rfl))) xgs_nil)))) xgs_nil)))
  (xss_one (xs_if (XW.pt (wor (tlt (xv 3) xi) (wor (tlt (xv 4) xi) (wor1 (tlt (xv 5) xi)))))
  (xss_one (xs_raiseX rfl tk0 T.x_InvalidPeriod rfl hr (ae_cons (xv 2) ae_nil) rfl (by show 1 ≤ sizeLine; decide) (al1 al0)))
  xss_nil)))
  (xss_one (xs_if (tnotn (XX.e_b (xv 1)))
  (xss_one (xs_for (fun _ _ _ hi hg hb => ps_for pa0 rfl hi hg hb) (xi_enum (fun _ h => pi_enum rfl B.b_enumerate (pa_cons h pa_nil)) (xv 0)) (xg_tup (fun _ h => pg_tup rfl h) rfl (xgs_cons (xg_name 2 (pg_name (i := 2) sc_check_periods.nd rfl (by first | exact Or.inl rfl | exact Or.inr rfl))) (xgs_cons (xg_tup (fun _ h => pg_tup rfl h) rfl (xgs_cons (xg_name 3 (pg_name (i := 3) sc_check_periods.nd rfl (by first | exact Or.inl rfl | exact Or.inr rfl))) (xgs_cons (xg_name 4 (pg_name (i := 4) sc_check_periods.nd rfl (by first | exact Or.inl rfl | exact Or.inr rfl))) (xgs_cons (xg_name 5 (pg_name (i := 5) sc_check_periods.nd rfl (by first | exact Or.inl rfl | exact Or.inr rfl))) xgs_nil)))) xgs_nil)))
  (xss_one (xs_if (tgt (xv 4) (xv 1))
  (xss_one (xs_raiseX rfl tk0 T.x_SetupAboveCap rfl hr (ae_cons (xv 2) ae_nil) rfl (by show 1 ≤ sizeLine; decide) (al1 al0)))
  xss_nil))))
  xss_nil)))
abbrev s_last_costs : Stmt := topS 9
abbrev N_last_costs : List Str := ["periods", "costs", "count", "ending", "result", "carried", "holding", "start", "demand", "setup", "hold"]
theorem sc_last_costs : FnScope N_last_costs ["periods", "costs", "count", "ending"] (defScope s_last_costs) := ⟨rfl, rfl, rfl, by decide +kernel, rfl, by decide +kernel, by decide +kernel⟩
theorem ok_last_costs {P : Program} {w : World} {K : PySem.W.Frag} {mg : Str → Option Value} {base : Heap} {ca : Nat → Addr} {a : Addr} {fd : FuncData} (F : Fun K "last_costs" "last_costs" s_last_costs a fd) (B : Bl mg) (T : Tx P K mg ca)  : FnOk P w K mg base (L2.CX P w) 1 a fd ["periods", "costs", "count", "ending"] (SpF ca cfG .e 4 f_last_costs) :=
  fn_body F sc_last_costs fun cdv A outer s H E hr => by
    have hu := hr.units
    have tk0 := tk_of (P := P) (w := w) (K := K) (mg := mg) (base := base) (N := N_last_costs) (qual := "last_costs") (sc := defScope s_last_costs) (f := a) (cd := cdv) (A := A) (outer := outer) (s := s) (H := H) (E := E)
    have pa0 := pa_of (P := P) (w := w) (K := K) (mg := mg) (base := base) (N := N_last_costs) (qual := "last_costs") (sc := defScope s_last_costs) (f := a) (cd := cdv) (A := A) (outer := outer) (s := s) (H := H) (E := E)
    exact (xss_cons (xs_setO (fun _ h => ps_set (i := 4) sc_last_costs.nd rfl (by first | exact Or.inl rfl | exact Or.inr rfl) h) (xrep (XX.o_e (xlst (ae_cons xi ae_nil))) (xv 2)))
  (xss_cons (xs_set (fun _ h => ps_set (i := 5) sc_last_costs.nd rfl (by first | exact Or.inl rfl | exact Or.inr rfl) h) (xv 3))
  (xss_cons (xs_set (fun _ h => ps_set (i := 6) sc_last_costs.nd rfl (by first | exact Or.inl rfl | exact Or.inr rfl) h) xi)
  (xss_cons (xs_for (fun _ _ _ hi hg hb => ps_for pa0 rfl hi hg hb) (xi_revR (fun _ h => pi_revR rfl B.b_reversed (prg_1 rfl B.b_range h)) (xv 2)) (xg_name 7 (pg_name (i := 7) sc_last_costs.nd rfl (by first | exact Or.inl rfl | exact Or.inr rfl)))
  (xss_cons (xs_asgT (fun _ _ h1 h2 => ps_asg h1 h2) (xix (XX.e_s (xv 0)) (xv 7)) (xg_tup (fun _ h => pg_tup rfl h) rfl (xgs_cons (xg_name 8 (pg_name (i := 8) sc_last_costs.nd rfl (by first | exact Or.inl rfl | exact Or.inr rfl))) (xgs_cons (xg_name 9 (pg_name (i := 9) sc_last_costs.nd rfl (by first | exact Or.inl rfl | exact Or.inr rfl))) (xgs_cons (xg_name 10 (pg_name (i := 10) sc_last_costs.nd rfl (by first | exact Or.inl rfl | exact Or.inr rfl))) xgs_nil)))))
  (xss_cons (xs_augAdd (fun _ h => ps_aug (i := 6) sc_last_costs.nd rfl (by first | exact Or.inl rfl | exact Or.inr rfl) h ip_add) (xmul (xv 10) (xv 5)))
  (xss_cons (xs_augAdd (fun _ h => ps_aug (i := 5) sc_last_costs.nd rfl (by first | exact Or.inl rfl | exact Or.inr rfl) h ip_add) (xv 8))
  (xss_one (xs_setItem (i := 4) (fun _ _ h1 h2 => ps_asg h1 (pg_sub (pv 4) h2 set_list)) (xadd (xadd (xix (XX.e_s (xv 1)) (xv 7)) (xv 9)) (xv 6)) (xv 7)))))))
  (xss_one (xs_fz 4 (xs_ret (xv 4))))))))
abbrev s_least_costs : Stmt := topS 10
abbrev N_least_costs : List Str := ["periods", "costs", "count"]
theorem sc_least_costs : FnScope N_least_costs ["periods"] (defScope s_least_costs) := ⟨rfl, rfl, rfl, by decide +kernel, rfl, by decide +kernel, by decide +kernel⟩
theorem ok_least_costs {P : Program} {w : World} {K : PySem.W.Frag} {mg : Str → Option Value} {base : Heap} {ca : Nat → Addr} {a : Addr} {fd : FuncData} (F : Fun K "least_costs" "least_costs" s_least_costs a fd) (B : Bl mg) (T : Tx P K mg ca) {a_check_periods : Addr} {fd_check_periods : FuncData} (C_check_periods : Df P w K mg base ca cfG 1 "check_periods" a_check_periods fd_check_periods ["periods", "cap"] .e f_check_periods)
    (D_check_periods : BindD K fd_check_periods ["periods", "cap"] .none)
    {a_last_costs : Addr} {fd_last_costs : FuncData} (C_last_costs : Df P w K mg base ca cfG 1 "last_costs" a_last_costs fd_last_costs ["periods", "costs", "count", "ending"] .e f_last_costs)
    (B_last_costs : Binds K fd_last_costs ["periods", "costs", "count", "ending"] []) : FnOk P w K mg base (L2.CX P w) 2 a fd ["periods"] (SpF ca cfG .o 1 f_least_costs) :=
  fn_body F sc_least_costs fun cdv A outer s H E hr => by
    have hu := hr.units
    have tk0 := tk_of (P := P) (w := w) (K := K) (mg := mg) (base := base) (N := N_least_costs) (qual := "least_costs") (sc := defScope s_least_costs) (f := a) (cd := cdv) (A := A) (outer := outer) (s := s) (H := H) (E := E)
    have pa0 := pa_of (P := P) (w := w) (K := K) (mg := mg) (base := base) (N := N_least_costs) (qual := "least_costs") (sc := defScope s_least_costs) (f := a) (cd := cdv) (A := A) (outer := outer) (s := s) (H := H) (E := E)
    exact (xss_cons (xs_drop (fun _ h => ps_expr h) (XX.e_b (xcallDE C_check_periods D_check_periods (hr.mono (by decide)) tk0 (ae_cons (xv 0) ae_nil))))
  (xss_cons (xs_setO (fun _ h => ps_set (i := 1) sc_least_costs.nd rfl (by first | exact Or.inl rfl | exact Or.inr rfl) h) (xlst (ae_cons xi ae_nil)))
  (xss_cons (xs_for (fun _ _ _ hi hg hb => ps_for pa0 rfl hi hg hb) (xi_range2 (fun _ h => pi_range2 rfl B.b_range h) (ab_cons (XX.e_b xi) (ab_cons (XX.e_b (xadd (xlen B.b_len (ab_cons (XX.e_b (xv 0)) ab_nil)) xi)) ab_nil))) (xg_name 2 (pg_name (i := 2) sc_least_costs.nd rfl (by first | exact Or.inl rfl | exact Or.inr rfl)))
  (xss_one (xs_if (teq hu (XX.e_b (xix (XX.e_s (xix (XX.e_s (xv 0)) (xsub (xv 2) xi))) xi)) (XX.e_b xi))
  (xss_one (xs_append (i := 1) (fun _ h => ps_expr (pe_bm PySem.F.plainAttrs_list PySem.F.slot_list_append PySem.F.type_list_append mt_append (pv 1) h)) (ae_cons (xix (xb 1) (xneg xi)) ae_nil)))
  (xss_one (xs_append (i := 1) (fun _ h => ps_expr (pe_bm PySem.F.plainAttrs_list PySem.F.slot_list_append PySem.F.type_list_append mt_append (pv 1) h)) (ae_cons (xmin rfl B.b_min (ab_cons (xcallB C_last_costs B_last_costs (hr.mono (by decide)) tk0 (ab_cons (XX.e_b (xv 0)) (ab_cons (XX.s_b (xb 1)) (ab_cons (XX.e_b (xv 2)) (ab_cons (XX.e_b xi) ab_nil))))) ab_nil)) ae_nil))))))
  (xss_one (xs_retV (pv 1))))))
abbrev s_check_ending : Stmt := topS 11
abbrev N_check_ending : List Str := ["periods", "ending"]
theorem sc_check_ending : FnScope N_check_ending ["periods", "ending"] (defScope s_check_ending) := ⟨rfl, rfl, rfl, by decide +kernel, rfl, by decide +kernel, by decide +kernel⟩
theorem ok_check_ending {P : Program} {w : World} {K : PySem.W.Frag} {mg : Str → Option Value} {base : Heap} {ca : Nat → Addr} {a : Addr} {fd : FuncData} (F : Fun K "check_ending" "check_ending" s_check_ending a fd) (B : Bl mg) (T : Tx P K mg ca) {a_check_periods : Addr} {fd_check_periods : FuncData} (C_check_periods : Df P w K mg base ca cfG 1 "check_periods" a_check_periods fd_check_periods ["periods", "cap"] .e f_check_periods)
    (D_check_periods : BindD K fd_check_periods ["periods", "cap"] .none) : FnOk P w K mg base (L2.CX P w) 2 a fd ["periods", "ending"] (SpF ca cfG .e 2 f_check_ending) :=
  fn_body F sc_check_ending fun cdv A outer s H E hr => by
    have hu := hr.units
    have tk0 := tk_of (P := P) (w := w) (K := K) (mg := mg) (base := base) (N := N_check_ending) (qual := "check_ending") (sc := defScope s_check_ending) (f := a) (cd := cdv) (A := A) (outer := outer) (s := s) (H := H) (E := E)
    have pa0 := pa_of (P := P) (w := w) (K := K) (mg := mg) (base := base) (N := N_check_ending) (qual := "check_ending") (sc := defScope s_check_ending) (f := a) (cd := cdv) (A := A) (outer := outer) (s := s) (H := H) (E := E)
    exact (xss_cons (xs_drop (fun _ h => ps_expr h) (XX.e_b (xcallDE C_check_periods D_check_periods (hr.mono (by decide)) tk0 (ae_cons (xv 0) ae_nil))))
  (xss_cons (xs_if (tlt (xv 1) xi)
  (xss_one (xs_raise0 rfl tk0 T.q_InvalidEnding T.gm_InvalidEnding T.kp_InvalidEnding (raises_own T.sb_InvalidEnding T.ty_InvalidEnding) rfl))
  xss_nil)
  (xss_one (xs_if (XW.pt (wand (tgt (xv 1) xi) (wand1 (teq hu (XX.e_b (xlen B.b_len (ab_cons (XX.e_b (xv 0)) ab_nil))) (XX.e_b xi)))))
  (xss_one (xs_raise0 rfl tk0 T.q_NoPeriods T.gm_NoPeriods T.kp_NoPeriods (raises_own T.sb_NoPeriods T.ty_NoPeriods) rfl))
  xss_nil))))
abbrev s_least_cost : Stmt := topS 12
abbrev N_least_cost : List Str := ["periods", "ending", "costs"]
theorem sc_least_cost : FnScope N_least_cost ["periods", "ending"] (defScope s_least_cost) := ⟨rfl, rfl, rfl, by decide +kernel, rfl, by decide +kernel, by decide +kernel⟩
theorem ok_least_cost {P : Program} {w : World} {K : PySem.W.Frag} {mg : Str → Option Value} {base : Heap} {ca : Nat → Addr} {a : Addr} {fd : FuncData} (F : Fun K "least_cost" "least_cost" s_least_cost a fd) (B : Bl mg) (T : Tx P K mg ca) {a_last_costs : Addr} {fd_last_costs : FuncData} (C_last_costs : Df P w K mg base ca cfG 1 "last_costs" a_last_costs fd_last_costs ["periods", "costs", "count", "ending"] .e f_last_costs)
    (B_last_costs : Binds K fd_last_costs ["periods", "costs", "count", "ending"] [])
    {a_least_costs : Addr} {fd_least_costs : FuncData} (C_least_costs : Df P w K mg base ca cfG 2 "least_costs" a_least_costs fd_least_costs ["periods"] .o f_least_costs)
    (B_least_costs : Binds K fd_least_costs ["periods"] [])
    {a_check_ending : Addr} {fd_check_ending : FuncData} (C_check_ending : Df P w K mg base ca cfG 2 "check_ending" a_check_ending fd_check_ending ["periods", "ending"] .e f_check_ending)
    (B_check_ending : Binds K fd_check_ending ["periods", "ending"] []) : FnOk P w K mg base (L2.CX P w) 3 a fd ["periods", "ending"] (SpF ca cfG .e 2 f_least_cost) :=
  fn_body F sc_least_cost fun cdv A outer s H E hr => by
    have hu := hr.units
    have tk0 := tk_of (P := P) (w := w) (K := K) (mg := mg) (base := base) (N := N_least_cost) (qual := "least_cost") (sc := defScope s_least_cost) (f := a) (cd := cdv) (A := A) (outer := outer) (s := s) (H := H) (E := E)
    have pa0 := pa_of (P := P) (w := w) (K := K) (mg := mg) (base := base) (N := N_least_cost) (qual := "least_cost") (sc := defScope s_least_cost) (f := a) (cd := cdv) (A := A) (outer := outer) (s := s) (H := H) (E := E)
    exact (xss_cons (xs_drop (fun _ h => ps_expr h) (XX.e_b (xcallE C_check_ending B_check_ending (hr.mono (by decide)) tk0 (ae_cons (xv 0) (ae_cons (xv 1) ae_nil)))))
  (xss_cons (xs_set (fun _ h => ps_set (i := 2) sc_least_cost.nd rfl (by first | exact Or.inl rfl | exact Or.inr rfl) h) (XX.o_e (xcallO C_least_costs B_least_costs (hr.mono (by decide)) tk0 (ae_cons (xv 0) ae_nil))))
  (xss_cons (xs_if (teq hu (XX.e_b (xv 1)) (XX.e_b xi))
  (xss_one (xs_ret (xix (XX.e_s (xv 2)) (xneg xi))))
  xss_nil)
  (xss_one (xs_ret (xmin rfl B.b_min (ab_cons (XX.e_b (xcallE C_last_costs B_last_costs (hr.mono (by decide)) tk0 (ae_cons (xv 0) (ae_cons (xv 2) (ae_cons (xlen B.b_len (ab_cons (XX.e_b (xv 0)) ab_nil)) (ae_cons (xv 1) ae_nil)))))) ab_nil)))))))
abbrev s_cost_lines : Stmt := topS 14
abbrev N_cost_lines : List Str := ["periods", "bases", "rate", "lines", "start"]
theorem sc_cost_lines : FnScope N_cost_lines ["periods"] (defScope s_cost_lines) := ⟨rfl, rfl, rfl, by decide +kernel, rfl, by decide +kernel, by decide +kernel⟩
theorem ok_cost_lines {P : Program} {w : World} {K : PySem.W.Frag} {mg : Str → Option Value} {base : Heap} {ca : Nat → Addr} {a : Addr} {fd : FuncData} (F : Fun K "cost_lines" "cost_lines" s_cost_lines a fd) (B : Bl mg) (T : Tx P K mg ca) {a_last_costs : Addr} {fd_last_costs : FuncData} (C_last_costs : Df P w K mg base ca cfG 1 "last_costs" a_last_costs fd_last_costs ["periods", "costs", "count", "ending"] .e f_last_costs)
    (B_last_costs : Binds K fd_last_costs ["periods", "costs", "count", "ending"] [])
    {a_least_costs : Addr} {fd_least_costs : FuncData} (C_least_costs : Df P w K mg base ca cfG 2 "least_costs" a_least_costs fd_least_costs ["periods"] .o f_least_costs)
    (B_least_costs : Binds K fd_least_costs ["periods"] []) : FnOk P w K mg base (L2.CX P w) 3 a fd ["periods"] (SpF ca cfG .e 1 f_cost_lines) :=
  fn_body F sc_cost_lines fun cdv A outer s H E hr => by
    have hu := hr.units
    have tk0 := tk_of (P := P) (w := w) (K := K) (mg := mg) (base := base) (N := N_cost_lines) (qual := "cost_lines") (sc := defScope s_cost_lines) (f := a) (cd := cdv) (A := A) (outer := outer) (s := s) (H := H) (E := E)
    have pa0 := pa_of (P := P) (w := w) (K := K) (mg := mg) (base := base) (N := N_cost_lines) (qual := "cost_lines") (sc := defScope s_cost_lines) (f := a) (cd := cdv) (A := A) (outer := outer) (s := s) (H := H) (E := E)
    exact (xss_cons (xs_set (fun _ h => ps_set (i := 1) sc_cost_lines.nd rfl (by first | exact Or.inl rfl | exact Or.inr rfl) h) (xcallE C_last_costs B_last_costs (hr.mono (by decide)) tk0 (ae_cons (xv 0) (ae_cons (XX.o_e (xcallO C_least_costs B_least_costs (hr.mono (by decide)) tk0 (ae_cons (xv 0) ae_nil))) (ae_cons (xlen B.b_len (ab_cons (XX.e_b (xv 0)) ab_nil)) (ae_cons xi ae_nil))))))
  (xss_cons (xs_set (fun _ h => ps_set (i := 2) sc_cost_lines.nd rfl (by first | exact Or.inl rfl | exact Or.inr rfl) h) xi)
  (xss_cons (xs_setO (fun _ h => ps_set (i := 3) sc_cost_lines.nd rfl (by first | exact Or.inl rfl | exact Or.inr rfl) h) (xlst ae_nil))
  (xss_cons (xs_for (fun _ _ _ hi hg hb => ps_for pa0 rfl hi hg hb) (xi_revR (fun _ h => pi_revR rfl B.b_reversed (prg_1 rfl B.b_range h)) (xlen B.b_len (ab_cons (XX.e_b (xv 0)) ab_nil))) (xg_name 4 (pg_name (i := 4) sc_cost_lines.nd rfl (by first | exact Or.inl rfl | exact Or.inr rfl)))
  (xss_cons (xs_augAdd (fun _ h => ps_aug (i := 2) sc_cost_lines.nd rfl (by first | exact Or.inl rfl | exact Or.inr rfl) h ip_add) (xix (XX.e_s (xix (XX.e_s (xv 0)) (xv 4))) xi))
  (xss_one (xs_append (i := 3) (fun _ h => ps_expr (pe_bm PySem.F.plainAttrs_list PySem.F.slot_list_append PySem.F.type_list_append mt_append (pv 3) h)) (ae_cons (xtup (ae_cons (xix (XX.e_s (xv 1)) (xv 4)) (ae_cons (xv 2) ae_nil))) ae_nil)))))
  (xss_cons (xs_reverse (i := 3) (ps_expr (pe_bm0 PySem.F.plainAttrs_list PySem.F.slot_list_reverse PySem.F.type_list_reverse mt_reverse (pv 3))))
  (xss_one (xs_fz 3 (xs_ret (xv 3)))))))))
abbrev s_best_ranges : Stmt := topS 15
abbrev N_best_ranges : List Str := ["lines", "result", "here", "base", "rate", "low", "other", "steeper", "high", "flatter", "bound"]
theorem sc_best_ranges : FnScope N_best_ranges ["lines"] (defScope s_best_ranges) := ⟨rfl, rfl, rfl, by decide +kernel, rfl, by decide +kernel, by decide +kernel⟩
theorem ok_best_ranges {P : Program} {w : World} {K : PySem.W.Frag} {mg : Str → Option Value} {base : Heap} {ca : Nat → Addr} {a : Addr} {fd : FuncData} (F : Fun K "best_ranges" "best_ranges" s_best_ranges a fd) (B : Bl mg) (T : Tx P K mg ca)  : FnOk P w K mg base (L2.CX P w) 1 a fd ["lines"] (SpF ca cfG .e 1 f_best_ranges) :=
  fn_body F sc_best_ranges fun cdv A outer s H E hr => by
    have hu := hr.units
    have tk0 := tk_of (P := P) (w := w) (K := K) (mg := mg) (base := base) (N := N_best_ranges) (qual := "best_ranges") (sc := defScope s_best_ranges) (f := a) (cd := cdv) (A := A) (outer := outer) (s := s) (H := H) (E := E)
    have pa0 := pa_of (P := P) (w := w) (K := K) (mg := mg) (base := base) (N := N_best_ranges) (qual := "best_ranges") (sc := defScope s_best_ranges) (f := a) (cd := cdv) (A := A) (outer := outer) (s := s) (H := H) (E := E)
    exact (xss_cons (xs_setO (fun _ h => ps_set (i := 1) sc_best_ranges.nd rfl (by first | exact Or.inl rfl | exact Or.inr rfl) h) (xlst ae_nil))
  (xss_cons (xs_for (fun _ _ _ hi hg hb => ps_for pa0 rfl hi hg hb) (xi_enum (fun _ h => pi_enum rfl B.b_enumerate (pa_cons h pa_nil)) (xv 0)) (xg_tup (fun _ h => pg_tup rfl h) rfl (xgs_cons (xg_name 2 (pg_name (i := 2) sc_best_ranges.nd rfl (by first | exact Or.inl rfl | exact Or.inr rfl))) (xgs_cons (xg_tup (fun _ h => pg_tup rfl h) rfl (xgs_cons (xg_name 3 (pg_name (i := 3) sc_best_ranges.nd rfl (by first | exact Or.inl rfl | exact Or.inr rfl))) (xgs_cons (xg_name 4 (pg_name (i := 4) sc_best_ranges.nd rfl (by first | exact Or.inl rfl | exact Or.inr rfl))) xgs_nil))) xgs_nil)))
  (xss_cons (xs_set (fun _ h => ps_set (i := 5) sc_best_ranges.nd rfl (by first | exact Or.inl rfl | exact Or.inr rfl) h) xi)
  (xss_cons (xs_for (fun _ _ _ hi hg hb => ps_for pa0 rfl hi hg hb) (xi_list (XX.o_e (xslice (XX.e_s (xv 0)) xo_none (xo_some (xv 2))))) (xg_tup (fun _ h => pg_tup rfl h) rfl (xgs_cons (xg_name 6 (pg_name (i := 6) sc_best_ranges.nd rfl (by first | exact Or.inl rfl | exact Or.inr rfl))) (xgs_cons (xg_name 7 (pg_name (i := 7) sc_best_ranges.nd rfl (by first | exact Or.inl rfl | exact Or.inr rfl))) xgs_nil)))
  (xss_one (xs_set (fun _ h => ps_set (i := 5) sc_best_ranges.nd rfl (by first | exact Or.inl rfl | exact Or.inr rfl) h) (xmax2 rfl B.b_max (ab_cons (XX.e_b (xv 5)) (ab_cons (XX.e_b (xneg (xdiv (xsub (xv 6) (xv 3)) (xsub (xv 7) (xv 4))))) ab_nil))))))
  (xss_cons (xs_set (fun _ h => ps_set (i := 8) sc_best_ranges.nd rfl (by first | exact Or.inl rfl | exact Or.inr rfl) h) xn)
  (xss_cons (xs_for (fun _ _ _ hi hg hb => ps_for pa0 rfl hi hg hb) (xi_list (XX.o_e (xslice (XX.e_s (xv 0)) (xo_some (xadd (xv 2) xi)) xo_none))) (xg_tup (fun _ h => pg_tup rfl h) rfl (xgs_cons (xg_name 6 (pg_name (i := 6) sc_best_ranges.nd rfl (by first | exact Or.inl rfl | exact Or.inr rfl))) (xgs_cons (xg_name 9 (pg_name (i := 9) sc_best_ranges.nd rfl (by first | exact Or.inl rfl | exact Or.inr rfl))) xgs_nil)))
  (xss_cons (xs_set (fun _ h => ps_set (i := 10) sc_best_ranges.nd rfl (by first | exact Or.inl rfl | exact Or.inr rfl) h) (xdiv (xsub (xv 6) (xv 3)) (xsub (xv 4) (xv 9))))
  (xss_one (xs_if (XW.pt (wor (tisn (XX.e_b (xv 8))) (wor1 (tlt (xv 10) (xv 8)))))
  (xss_one (xs_set (fun _ h => ps_set (i := 8) sc_best_ranges.nd rfl (by first | exact Or.inl rfl | exact Or.inr rfl) h) (xv 10)))
  xss_nil))))
  (xss_one (xs_if (XW.pt (wand (tnotn (XX.e_b (xv 8))) (wand1 (tlt (xv 8) (xv 5)))))
  (xss_one (xs_append (i := 1) (fun _ h => ps_expr (pe_bm PySem.F.plainAttrs_list PySem.F.slot_list_append PySem.F.type_list_append mt_append (pv 1) h)) (ae_cons xn ae_nil)))
  (xss_one (xs_append (i := 1) (fun _ h => ps_expr (pe_bm PySem.F.plainAttrs_list PySem.F.slot_list_append PySem.F.type_list_append mt_append (pv 1) h)) (ae_cons (xtup (ae_cons (xv 5) (ae_cons (xv 8) ae_nil))) ae_nil))))))))))
  (xss_one (xs_fz 1 (xs_ret (xv 1))))))
abbrev s_profile_pieces : Stmt := topS 16
abbrev N_profile_pieces : List Str := ["periods", "lines", "result", "start", "bounds"]
theorem sc_profile_pieces : FnScope N_profile_pieces ["periods"] (defScope s_profile_pieces) := ⟨rfl, rfl, rfl, by decide +kernel, rfl, by decide +kernel, by decide +kernel⟩
theorem ok_profile_pieces {P : Program} {w : World} {K : PySem.W.Frag} {mg : Str → Option Value} {base : Heap} {ca : Nat → Addr} {a : Addr} {fd : FuncData} (F : Fun K "profile_pieces" "profile_pieces" s_profile_pieces a fd) (B : Bl mg) (T : Tx P K mg ca) {a_cost_lines : Addr} {fd_cost_lines : FuncData} (C_cost_lines : Df P w K mg base ca cfG 3 "cost_lines" a_cost_lines fd_cost_lines ["periods"] .e f_cost_lines)
    (B_cost_lines : Binds K fd_cost_lines ["periods"] [])
    {a_best_ranges : Addr} {fd_best_ranges : FuncData} (C_best_ranges : Df P w K mg base ca cfG 1 "best_ranges" a_best_ranges fd_best_ranges ["lines"] .e f_best_ranges)
    (B_best_ranges : Binds K fd_best_ranges ["lines"] []) : FnOk P w K mg base (L2.CX P w) 4 a fd ["periods"] (SpF ca cfG .e 1 f_profile_pieces) :=
  fn_body F sc_profile_pieces fun cdv A outer s H E hr => by
    have hu := hr.units
    have tk0 := tk_of (P := P) (w := w) (K := K) (mg := mg) (base := base) (N := N_profile_pieces) (qual := "profile_pieces") (sc := defScope s_profile_pieces) (f := a) (cd := cdv) (A := A) (outer := outer) (s := s) (H := H) (E := E)
    have pa0 := pa_of (P := P) (w := w) (K := K) (mg := mg) (base := base) (N := N_profile_pieces) (qual := "profile_pieces") (sc := defScope s_profile_pieces) (f := a) (cd := cdv) (A := A) (outer := outer) (s := s) (H := H) (E := E)
    exact (xss_cons (xs_set (fun _ h => ps_set (i := 1) sc_profile_pieces.nd rfl (by first | exact Or.inl rfl | exact Or.inr rfl) h) (xcallE C_cost_lines B_cost_lines (hr.mono (by decide)) tk0 (ae_cons (xv 0) ae_nil)))
  (xss_cons (xs_setO (fun _ h => ps_set (i := 2) sc_profile_pieces.nd rfl (by first | exact Or.inl rfl | exact Or.inr rfl) h) (xlst ae_nil))
  (xss_cons (xs_for (fun _ _ _ hi hg hb => ps_for pa0 rfl hi hg hb) (xi_enum (fun _ h => pi_enum rfl B.b_enumerate (pa_cons h pa_nil)) (xcallE C_best_ranges B_best_ranges (hr.mono (by decide)) tk0 (ae_cons (xv 1) ae_nil))) (xg_tup (fun _ h => pg_tup rfl h) rfl (xgs_cons (xg_name 3 (pg_name (i := 3) sc_profile_pieces.nd rfl (by first | exact Or.inl rfl | exact Or.inr rfl))) (xgs_cons (xg_name 4 (pg_name (i := 4) sc_profile_pieces.nd rfl (by first | exact Or.inl rfl | exact Or.inr rfl))) xgs_nil)))
  (xss_one (xs_if (tnotn (XX.e_b (xv 4)))
  (xss_one (xs_append (i := 2) (fun _ h => ps_expr (pe_bm PySem.F.plainAttrs_list PySem.F.slot_list_append PySem.F.type_list_append mt_append (pv 2) h)) (ae_cons (xtup (ae_cons (xv 3) (ae_cons (xix (XX.e_s (xv 4)) xi) (ae_cons (xix (XX.e_s (xv 4)) xi) (ae_cons (xix (XX.e_s (xix (XX.e_s (xv 1)) (xv 3))) xi) (ae_cons (xix (XX.e_s (xix (XX.e_s (xv 1)) (xv 3))) xi) ae_nil)))))) ae_nil)))
  xss_nil)))
  (xss_one (xs_fz 2 (xs_ret (xv 2)))))))
abbrev s_profile_pieces__o : Stmt := topS 16
abbrev N_profile_pieces__o : List Str := ["periods", "lines", "result", "start", "bounds"]
theorem sc_profile_pieces__o : FnScope N_profile_pieces__o ["periods"] (defScope s_profile_pieces__o) := ⟨rfl, rfl, rfl, by decide +kernel, rfl, by decide +kernel, by decide +kernel⟩
theorem ok_profile_pieces__o {P : Program} {w : World} {K : PySem.W.Frag} {mg : Str → Option Value} {base : Heap} {ca : Nat → Addr} {a : Addr} {fd : FuncData} (F : Fun K "profile_pieces" "profile_pieces" s_profile_pieces__o a fd) (B : Bl mg) (T : Tx P K mg ca) {a_cost_lines : Addr} {fd_cost_lines : FuncData} (C_cost_lines : Df P w K mg base ca cfG 3 "cost_lines" a_cost_lines fd_cost_lines ["periods"] .e f_cost_lines)
    (B_cost_lines : Binds K fd_cost_lines ["periods"] [])
    {a_best_ranges : Addr} {fd_best_ranges : FuncData} (C_best_ranges : Df P w K mg base ca cfG 1 "best_ranges" a_best_ranges fd_best_ranges ["lines"] .e f_best_ranges)
    (B_best_ranges : Binds K fd_best_ranges ["lines"] []) : FnOk P w K mg base (L2.CX P w) 4 a fd ["periods"] (SpF ca cfG .o 1 f_profile_pieces__o_k22) :=
  fn_body F sc_profile_pieces__o fun cdv A outer s H E hr => by
    have hu := hr.units
    have tk0 := tk_of (P := P) (w := w) (K := K) (mg := mg) (base := base) (N := N_profile_pieces__o) (qual := "profile_pieces") (sc := defScope s_profile_pieces__o) (f := a) (cd := cdv) (A := A) (outer := outer) (s := s) (H := H) (E := E)
    have pa0 := pa_of (P := P) (w := w) (K := K) (mg := mg) (base := base) (N := N_profile_pieces__o) (qual := "profile_pieces") (sc := defScope s_profile_pieces__o) (f := a) (cd := cdv) (A := A) (outer := outer) (s := s) (H := H) (E := E)
    exact (xss_cons (xs_set (fun _ h => ps_set (i := 1) sc_profile_pieces__o.nd rfl (by first | exact Or.inl rfl | exact Or.inr rfl) h) (xcallE C_cost_lines B_cost_lines (hr.mono (by decide)) tk0 (ae_cons (xv 0) ae_nil)))
  (xss_cons (xs_setO (fun _ h => ps_set (i := 2) sc_profile_pieces__o.nd rfl (by first | exact Or.inl rfl | exact Or.inr rfl) h) (xlst ae_nil))
  (xss_cons (xs_for (fun _ _ _ hi hg hb => ps_for pa0 rfl hi hg hb) (xi_enum (fun _ h => pi_enum rfl B.b_enumerate (pa_cons h pa_nil)) (xcallE C_best_ranges B_best_ranges (hr.mono (by decide)) tk0 (ae_cons (xv 1) ae_nil))) (xg_tup (fun _ h => pg_tup rfl h) rfl (xgs_cons (xg_name 3 (pg_name (i := 3) sc_profile_pieces__o.nd rfl (by first | exact Or.inl rfl | exact Or.inr rfl))) (xgs_cons (xg_name 4 (pg_name (i := 4) sc_profile_pieces__o.nd rfl (by first | exact Or.inl rfl | exact Or.inr rfl))) xgs_nil)))
  (xss_one (xs_if (tnotn (XX.e_b (xv 4)))
  (xss_one (xs_append (i := 2) (fun _ h => ps_expr (pe_bm PySem.F.plainAttrs_list PySem.F.slot_list_append PySem.F.type_list_append mt_append (pv 2) h)) (ae_cons (xtup (ae_cons (xv 3) (ae_cons (xix (XX.e_s (xv 4)) xi) (ae_cons (xix (XX.e_s (xv 4)) xi) (ae_cons (xix (XX.e_s (xix (XX.e_s (xv 1)) (xv 3))) xi) (ae_cons (xix (XX.e_s (xix (XX.e_s (xv 1)) (xv 3))) xi) ae_nil)))))) ae_nil)))
  xss_nil)))
  (xss_one (xs_retV (pv 2))))))
abbrev s_law_cell : Stmt := topS 19
abbrev N_law_cell : List Str := ["_law_script", "_law_k"]
theorem sc_law_cell : FnScope N_law_cell ["_law_script", "_law_k"] (defScope s_law_cell) := ⟨rfl, rfl, rfl, by decide +kernel, rfl, by decide +kernel, by decide +kernel⟩
theorem ok_law_cell {P : Program} {w : World} {K : PySem.W.Frag} {mg : Str → Option Value} {base : Heap} {ca : Nat → Addr} {a : Addr} {fd : FuncData} (F : Fun K "_law_cell" "_law_cell" s_law_cell a fd) (B : Bl mg) (T : Tx P K mg ca)  : FnOk P w K mg base (L2.CX P w) 1 a fd ["_law_script", "_law_k"] (SpF ca cfG .e 2 f_law_cell) :=
  fn_body F sc_law_cell fun cdv A outer s H E hr => by
    have hu := hr.units
    have tk0 := tk_of (P := P) (w := w) (K := K) (mg := mg) (base := base) (N := N_law_cell) (qual := "_law_cell") (sc := defScope s_law_cell) (f := a) (cd := cdv) (A := A) (outer := outer) (s := s) (H := H) (E := E)
    have pa0 := pa_of (P := P) (w := w) (K := K) (mg := mg) (base := base) (N := N_law_cell) (qual := "_law_cell") (sc := defScope s_law_cell) (f := a) (cd := cdv) (A := A) (outer := outer) (s := s) (H := H) (E := E)
    exact (xss_cons (xs_if (tlt (xv 1) (xlen B.b_len (ab_cons (XX.e_b (xv 0)) ab_nil)))
  (xss_one (xs_ret (xabs B.b_abs (ab_cons (XX.e_b (xix (XX.e_s (xv 0)) (xv 1))) ab_nil))))
  xss_nil)
  (xss_one (xs_ret xi)))
abbrev s_law_number : Stmt := topS 20
abbrev N_law_number : List Str := ["_law_script", "_law_k", "_law_cell_here", "_law_first", "_law_second"]
theorem sc_law_number : FnScope N_law_number ["_law_script", "_law_k"] (defScope s_law_number) := ⟨rfl, rfl, rfl, by decide +kernel, rfl, by decide +kernel, by decide +kernel⟩
theorem ok_law_number {P : Program} {w : World} {K : PySem.W.Frag} {mg : Str → Option Value} {base : Heap} {ca : Nat → Addr} {a : Addr} {fd : FuncData} (F : Fun K "_law_number" "_law_number" s_law_number a fd) (B : Bl mg) (T : Tx P K mg ca) {a_law_cell : Addr} {fd_law_cell : FuncData} (C_law_cell : Df P w K mg base ca cfG 1 "_law_cell" a_law_cell fd_law_cell ["_law_script", "_law_k"] .e f_law_cell)
    (B_law_cell : Binds K fd_law_cell ["_law_script", "_law_k"] []) : FnOk P w K mg base (L2.CX P w) 2 a fd ["_law_script", "_law_k"] (SpF ca cfG .e 2 f_law_number) :=
  fn_body F sc_law_number fun cdv A outer s H E hr => by
    have hu := hr.units
    have tk0 := tk_of (P := P) (w := w) (K := K) (mg := mg) (base := base) (N := N_law_number) (qual := "_law_number") (sc := defScope s_law_number) (f := a) (cd := cdv) (A := A) (outer := outer) (s := s) (H := H) (E := E)
    have pa0 := pa_of (P := P) (w := w) (K := K) (mg := mg) (base := base) (N := N_law_number) (qual := "_law_number") (sc := defScope s_law_number) (f := a) (cd := cdv) (A := A) (outer := outer) (s := s) (H := H) (E := E)
    exact (xss_cons (xs_set (fun _ h => ps_set (i := 2) sc_law_number.nd rfl (by first | exact Or.inl rfl | exact Or.inr rfl) h) (xcallE C_law_cell B_law_cell (hr.mono (by decide)) tk0 (ae_cons (xv 0) (ae_cons (xv 1) ae_nil))))
  (xss_cons (xs_if (tge (xv 2) (xpow (m := 10) (n := 18) ⟨by decide, by decide, by decide⟩))
  (xss_one (xs_ret (xv 2)))
  xss_nil)
  (xss_cons (xs_set (fun _ h => ps_set (i := 3) sc_law_number.nd rfl (by first | exact Or.inl rfl | exact Or.inr rfl) h) (xmod (xint B.b_int (ab_cons (XX.e_b (xadd (xadd (xmul (xv 2) xi) (xmul xi (xv 1))) xi)) ab_nil)) xi))
  (xss_cons (xs_set (fun _ h => ps_set (i := 4) sc_law_number.nd rfl (by first | exact Or.inl rfl | exact Or.inr rfl) h) (xmod (xint B.b_int (ab_cons (XX.e_b (xadd (xadd (xmul (xv 3) xi) (xmul xi (xv 1))) xi)) ab_nil)) xi))
  (xss_one (xs_ret (xadd (xv 3) (xmul xi (xv 4)))))))))
abbrev s_law_period : Stmt := topS 21
abbrev N_law_period : List Str := ["_law_number_here", "_law_scale", "_law_low", "_law_setup", "_law_hold", "_law_sizes", "_law_many", "_law_most", "_law_rate", "_law_demand", "_law_odd"]
theorem sc_law_period : FnScope N_law_period ["_law_number_here", "_law_scale"] (defScope s_law_period) := ⟨rfl, rfl, rfl, by decide +kernel, rfl, by decide +kernel, by decide +kernel⟩
theorem ok_law_period {P : Program} {w : World} {K : PySem.W.Frag} {mg : Str → Option Value} {base : Heap} {ca : Nat → Addr} {a : Addr} {fd : FuncData} (F : Fun K "_law_period" "_law_period" s_law_period a fd) (B : Bl mg) (T : Tx P K mg ca)  : FnOk P w K mg base (L2.CX P w) 1 a fd ["_law_number_here", "_law_scale"] (SpF ca cfG .e 2 f_law_period) :=
  fn_body F sc_law_period fun cdv A outer s H E hr => by
    have hu := hr.units
    have tk0 := tk_of (P := P) (w := w) (K := K) (mg := mg) (base := base) (N := N_law_period) (qual := "_law_period") (sc := defScope s_law_period) (f := a) (cd := cdv) (A := A) (outer := outer) (s := s) (H := H) (E := E)
    have pa0 := pa_of (P := P) (w := w) (K := K) (mg := mg) (base := base) (N := N_law_period) (qual := "_law_period") (sc := defScope s_law_period) (f := a) (cd := cdv) (A := A) (outer := outer) (s := s) (H := H) (E := E)
    exact (xss_cons (xs_if (teq hu (XX.e_b (xv 1)) (XX.e_b xi))
  (xss_cons (xs_set (fun _ h => ps_set (i := 2) sc_law_period.nd rfl (by first | exact Or.inl rfl | exact Or.inr rfl) h) (xmod (xint B.b_int (ab_cons (XX.e_b (xv 0)) ab_nil)) (xpow (m := 10) (n := 60) ⟨by decide, by decide, by decide⟩)))
  (xss_cons (xs_set (fun _ h => ps_set (i := 3) sc_law_period.nd rfl (by first | exact Or.inl rfl | exact Or.inr rfl) h) (xmod (xint B.b_int (ab_cons (XX.e_b (xadd (xdiv (xv 0) (xpow (m := 10) (n := 30) ⟨by decide, by decide, by decide⟩)) (xmul (xv 2) (xv 2)))) ab_nil)) (xpow (m := 10) (n := 60) ⟨by decide, by decide, by decide⟩)))
  (xss_cons (xs_set (fun _ h => ps_set (i := 4) sc_law_period.nd rfl (by first | exact Or.inl rfl | exact Or.inr rfl) h) (xadd xi (xmod (xint B.b_int (ab_cons (XX.e_b (xadd (xdiv (xdiv (xv 0) (xpow (m := 10) (n := 45) ⟨by decide, by decide, by decide⟩)) (xpow (m := 10) (n := 45) ⟨by decide, by decide, by decide⟩)) (xmul xi (xv 2)))) ab_nil)) (xpow (m := 10) (n := 30) ⟨by decide, by decide, by decide⟩))))
  (xss_one (xs_ret (xtup (ae_cons (xmod (xv 2) (xpow (m := 10) (n := 30) ⟨by decide, by decide, by decide⟩)) (ae_cons (xv 3) (ae_cons (xv 4) ae_nil)))))))))
  xss_nil)
  (xss_cons (xs_set (fun _ h => ps_set (i := 5) sc_law_period.nd rfl (by first | exact Or.inl rfl | exact Or.inr rfl) h) (XX.o_e (xlst (ae_cons (xtup (ae_cons xi (ae_cons xi (ae_cons xi ae_nil)))) (ae_cons (xtup (ae_cons xi (ae_cons xi (ae_cons xi ae_nil)))) (ae_cons (xtup (ae_cons xi (ae_cons xi (ae_cons xi ae_nil)))) (ae_cons (xtup (ae_cons (xpow (m := 10) (n := 6) ⟨by decide, by decide, by decide⟩) (ae_cons (xpow (m := 10) (n := 9) ⟨by decide, by decide, by decide⟩) (ae_cons xi ae_nil)))) (ae_cons (xtup (ae_cons xi (ae_cons xi (ae_cons xi ae_nil)))) ae_nil))))))))
  (xss_cons (xs_asgT (fun _ _ h1 h2 => ps_asg h1 h2) (xix (XX.e_s (xv 5)) (xv 1)) (xg_tup (fun _ h => pg_tup rfl h) rfl (xgs_cons (xg_name 6 (pg_name (i := 6) sc_law_period.nd rfl (by first | exact Or.inl rfl | exact Or.inr rfl))) (xgs_cons (xg_name 7 (pg_name (i := 7) sc_law_period.nd rfl (by first | exact Or.inl rfl | exact Or.inr rfl))) (xgs_cons (xg_name 8 (pg_name (i := 8) sc_law_period.nd rfl (by first | exact Or.inl rfl | exact Or.inr rfl))) xgs_nil)))))
  (xss_cons (xs_set (fun _ h => ps_set (i := 9) sc_law_period.nd rfl (by first | exact Or.inl rfl | exact Or.inr rfl) h) (xmod (xint B.b_int (ab_cons (XX.e_b (xv 0)) ab_nil)) (xv 6)))
  (xss_cons (xs_set (fun _ h => ps_set (i := 3) sc_law_period.nd rfl (by first | exact Or.inl rfl | exact Or.inr rfl) h) (xmod (xint B.b_int (ab_cons (XX.e_b (xdiv (xv 0) (xv 6))) ab_nil)) (xv 7)))
  (xss_cons (xs_set (fun _ h => ps_set (i := 4) sc_law_period.nd rfl (by first | exact Or.inl rfl | exact Or.inr rfl) h) (xadd xi (xmod (xint B.b_int (ab_cons (XX.e_b (xdiv (xv 0) (xmul (xv 6) (xv 7)))) ab_nil)) (xv 8))))
  (xss_cons (xs_set (fun _ h => ps_set (i := 10) sc_law_period.nd rfl (by first | exact Or.inl rfl | exact Or.inr rfl) h) (xmod (xint B.b_int (ab_cons (XX.e_b (xdiv (xv 0) (xmul (xmul (xv 6) (xv 7)) (xv 8)))) ab_nil)) xi))
  (xss_cons (xs_if (teq hu (XX.e_b (xv 10)) (XX.e_b xi))
  (xss_one (xs_set (fun _ h => ps_set (i := 9) sc_law_period.nd rfl (by first | exact Or.inl rfl | exact Or.inr rfl) h) xi))
  xss_nil)
  (xss_cons (xs_if (teq hu (XX.e_b (xv 10)) (XX.e_b xi))
  (xss_one (xs_set (fun _ h => ps_set (i := 3) sc_law_period.nd rfl (by first | exact Or.inl rfl | exact Or.inr rfl) h) xi))
  xss_nil)
  (xss_cons (xs_if (teq hu (XX.e_b (xv 1)) (XX.e_b xi))
  (xss_one (xs_ret (xtup (ae_cons (xmul (xv 9) (xpow (m := 10) (n := 12) ⟨by decide, by decide, by decide⟩)) (ae_cons (xmul (xv 3) (xpow (m := 10) (n := 21) ⟨by decide, by decide, by decide⟩)) (ae_cons (xmul (xv 4) (xpow (m := 10) (n := 9) ⟨by decide, by decide, by decide⟩)) ae_nil))))))
  xss_nil)
  (xss_one (xs_ret (xtup (ae_cons (xv 9) (ae_cons (xv 3) (ae_cons (xv 4) ae_nil))))))))))))))))
abbrev s_law_periods : Stmt := topS 22
abbrev N_law_periods : List Str := ["_law_script", "_law_start", "_law_count", "_law_scale", "_law_k"]
theorem sc_law_periods : FnScope N_law_periods ["_law_script", "_law_start", "_law_count", "_law_scale"] (defScope s_law_periods) := ⟨rfl, rfl, rfl, by decide +kernel, rfl, by decide +kernel, by decide +kernel⟩
theorem ok_law_periods {P : Program} {w : World} {K : PySem.W.Frag} {mg : Str → Option Value} {base : Heap} {ca : Nat → Addr} {a : Addr} {fd : FuncData} (F : Fun K "_law_periods" "_law_periods" s_law_periods a fd) (B : Bl mg) (T : Tx P K mg ca) {a_law_number : Addr} {fd_law_number : FuncData} (C_law_number : Df P w K mg base ca cfG 2 "_law_number" a_law_number fd_law_number ["_law_script", "_law_k"] .e f_law_number)
    (B_law_number : Binds K fd_law_number ["_law_script", "_law_k"] [])
    {a_law_period : Addr} {fd_law_period : FuncData} (C_law_period : Df P w K mg base ca cfG 1 "_law_period" a_law_period fd_law_period ["_law_number_here", "_law_scale"] .e f_law_period)
    (B_law_period : Binds K fd_law_period ["_law_number_here", "_law_scale"] []) : FnOk P w K mg base (L2.CX P w) 3 a fd ["_law_script", "_law_start", "_law_count", "_law_scale"] (SpF ca cfG .o 4 f_law_periods) :=
  fn_body F sc_law_periods fun cdv A outer s H E hr => by
    have hu := hr.units
    have tk0 := tk_of (P := P) (w := w) (K := K) (mg := mg) (base := base) (N := N_law_periods) (qual := "_law_periods") (sc := defScope s_law_periods) (f := a) (cd := cdv) (A := A) (outer := outer) (s := s) (H := H) (E := E)
    have pa0 := pa_of (P := P) (w := w) (K := K) (mg := mg) (base := base) (N := N_law_periods) (qual := "_law_periods") (sc := defScope s_law_periods) (f := a) (cd := cdv) (A := A) (outer := outer) (s := s) (H := H) (E := E)
    exact (xss_one (xs_ret (xcomp (is := [4]) (vs := [4]) (by decide) (fun _ hi => pe_lc (own := [("_law_k", 4)]) rfl sc_law_periods.nd hi (blkOk_by (own := [("_law_k", 4)]) (N := N_law_periods) (sc := defScope s_law_periods) (by decide +kernel)) (fun _ _ _ _ _ => pg_u (xg_name 4 (pg_name (i := 4) sc_law_periods.nd rfl (by first | exact Or.inl rfl | exact Or.inr rfl)))) (fun _ _ _ _ _ => pts_u xts_nil) (fun _ _ _ _ _ => pe_u (xcallE C_law_period B_law_period (hr.mono (by decide)) takes0 (ae_cons (xcallE C_law_number B_law_number (hr.mono (by decide)) takes0 (ae_cons (xv 0) (ae_cons (xadd (xv 1) (xv 4)) ae_nil))) (ae_cons (xv 3) ae_nil))))) (xi_range1 (fun _ h => pi_range1 rfl B.b_range h) (ab_cons (XX.e_b (xv 2)) ab_nil)))))
abbrev s_law_shape : Stmt := topS 23
abbrev N_law_shape : List Str := ["_law_script", "_law_most", "_law_cell_here", "_law_digits", "_law_total", "_law_known"]
theorem sc_law_shape : FnScope N_law_shape ["_law_script", "_law_most"] (defScope s_law_shape) := ⟨rfl, rfl, rfl, by decide +kernel, rfl, by decide +kernel, by decide +kernel⟩
theorem ok_law_shape {P : Program} {w : World} {K : PySem.W.Frag} {mg : Str → Option Value} {base : Heap} {ca : Nat → Addr} {a : Addr} {fd : FuncData} (F : Fun K "_law_shape" "_law_shape" s_law_shape a fd) (B : Bl mg) (T : Tx P K mg ca) {a_law_cell : Addr} {fd_law_cell : FuncData} (C_law_cell : Df P w K mg base ca cfG 1 "_law_cell" a_law_cell fd_law_cell ["_law_script", "_law_k"] .e f_law_cell)
    (B_law_cell : Binds K fd_law_cell ["_law_script", "_law_k"] []) : FnOk P w K mg base (L2.CX P w) 2 a fd ["_law_script", "_law_most"] (SpF ca cfG .e 2 f_law_shape) :=
  fn_body F sc_law_shape fun cdv A outer s H E hr => by
    have hu := hr.units
    have tk0 := tk_of (P := P) (w := w) (K := K) (mg := mg) (base := base) (N := N_law_shape) (qual := "_law_shape") (sc := defScope s_law_shape) (f := a) (cd := cdv) (A := A) (outer := outer) (s := s) (H := H) (E := E)
    have pa0 := pa_of (P := P) (w := w) (K := K) (mg := mg) (base := base) (N := N_law_shape) (qual := "_law_shape") (sc := defScope s_law_shape) (f := a) (cd := cdv) (A := A) (outer := outer) (s := s) (H := H) (E := E)
    exact (xss_cons (xs_set (fun _ h => ps_set (i := 2) sc_law_shape.nd rfl (by first | exact Or.inl rfl | exact Or.inr rfl) h) (xcallE C_law_cell B_law_cell (hr.mono (by decide)) tk0 (ae_cons (xv 0) (ae_cons xi ae_nil))))
  (xss_cons (xs_set (fun _ h => ps_set (i := 3) sc_law_shape.nd rfl (by first | exact Or.inl rfl | exact Or.inr rfl) h) (xdiv (xv 2) xi))
  (xss_cons (xs_if (XW.pt (wand (teq hu (XX.e_b (xmod (xint B.b_int (ab_cons (XX.e_b (xv 3)) ab_nil)) xi)) (XX.e_b xi)) (wand1 (tgt (xlen B.b_len (ab_cons (XX.e_b (xv 0)) ab_nil)) xi))))
  (xss_cons (xs_set (fun _ h => ps_set (i := 4) sc_law_shape.nd rfl (by first | exact Or.inl rfl | exact Or.inr rfl) h) (xmin2 rfl B.b_min (ab_cons (XX.e_b (xsub (xlen B.b_len (ab_cons (XX.e_b (xv 0)) ab_nil)) xi)) (ab_cons (XX.e_b (xv 1)) ab_nil))))
  (xss_cons (xs_set (fun _ h => ps_set (i := 5) sc_law_shape.nd rfl (by first | exact Or.inl rfl | exact Or.inr rfl) h) (xadd xi (xmod (xint B.b_int (ab_cons (XX.e_b (xdiv (xv 3) xi)) ab_nil)) (xv 4))))
  (xss_one (xs_ret (xtup (ae_cons (xmod (xint B.b_int (ab_cons (XX.e_b (xv 2)) ab_nil)) xi) (ae_cons (xv 5) (ae_cons (xsub (xv 4) (xv 5)) ae_nil))))))))
  xss_nil)
  (xss_one (xs_ret (xtup (ae_cons (xmod (xint B.b_int (ab_cons (XX.e_b (xv 2)) ab_nil)) xi) (ae_cons (xadd xi (xmod (xint B.b_int (ab_cons (XX.e_b (xdiv (xv 3) xi)) ab_nil)) xi)) (ae_cons (xmod (xint B.b_int (ab_cons (XX.e_b (xdiv (xv 3) xi)) ab_nil)) xi) ae_nil)))))))))
abbrev s_law_grown : Stmt := topS 24
abbrev N_law_grown : List Str := ["_law_script", "_law_many"]
theorem sc_law_grown : FnScope N_law_grown ["_law_script", "_law_many"] (defScope s_law_grown) := ⟨rfl, rfl, rfl, by decide +kernel, rfl, by decide +kernel, by decide +kernel⟩
theorem ok_law_grown {P : Program} {w : World} {K : PySem.W.Frag} {mg : Str → Option Value} {base : Heap} {ca : Nat → Addr} {a : Addr} {fd : FuncData} (F : Fun K "_law_grown" "_law_grown" s_law_grown a fd) (B : Bl mg) (T : Tx P K mg ca) {a_law_number : Addr} {fd_law_number : FuncData} (C_law_number : Df P w K mg base ca cfG 2 "_law_number" a_law_number fd_law_number ["_law_script", "_law_k"] .e f_law_number)
    (B_law_number : Binds K fd_law_number ["_law_script", "_law_k"] []) : FnOk P w K mg base (L2.CX P w) 3 a fd ["_law_script", "_law_many"] (SpF ca cfG .e 2 f_law_grown) :=
  fn_body F sc_law_grown fun cdv A outer s H E hr => by
    have hu := hr.units
    have tk0 := tk_of (P := P) (w := w) (K := K) (mg := mg) (base := base) (N := N_law_grown) (qual := "_law_grown") (sc := defScope s_law_grown) (f := a) (cd := cdv) (A := A) (outer := outer) (s := s) (H := H) (E := E)
    have pa0 := pa_of (P := P) (w := w) (K := K) (mg := mg) (base := base) (N := N_law_grown) (qual := "_law_grown") (sc := defScope s_law_grown) (f := a) (cd := cdv) (A := A) (outer := outer) (s := s) (H := H) (E := E)
    exact (xss_cons (xs_if (XW.pt (wand (teq hu (XX.e_b (xv 1)) (XX.e_b xi)) (wand1 (tgt (xlen B.b_len (ab_cons (XX.e_b (xv 0)) ab_nil)) xi))))
  (xss_one (xs_ret (xadd xi (xmod (xint B.b_int (ab_cons (XX.e_b (xdiv (xcallE C_law_number B_law_number (hr.mono (by decide)) tk0 (ae_cons (xv 0) (ae_cons xi ae_nil))) xi)) ab_nil)) xi))))
  xss_nil)
  (xss_one (xs_ret (xv 1))))
abbrev s_law_costs : Stmt := topS 25
abbrev N_law_costs : List Str := ["_law_periods_here", "_law_k", "_law_costs_here", "_law_start", "_law_cost", "_law_rate", "_law_at"]
theorem sc_law_costs : FnScope N_law_costs ["_law_periods_here"] (defScope s_law_costs) := ⟨rfl, rfl, rfl, by decide +kernel, rfl, by decide +kernel, by decide +kernel⟩
theorem ok_law_costs {P : Program} {w : World} {K : PySem.W.Frag} {mg : Str → Option Value} {base : Heap} {ca : Nat → Addr} {a : Addr} {fd : FuncData} (F : Fun K "_law_costs" "_law_costs" s_law_costs a fd) (B : Bl mg) (T : Tx P K mg ca)  : FnOk P w K mg base (L2.CX P w) 1 a fd ["_law_periods_here"] (SpF ca cfG .e 1 f_law_costs) :=
  fn_body F sc_law_costs fun cdv A outer s H E hr => by
    have hu := hr.units
    have tk0 := tk_of (P := P) (w := w) (K := K) (mg := mg) (base := base) (N := N_law_costs) (qual := "_law_costs") (sc := defScope s_law_costs) (f := a) (cd := cdv) (A := A) (outer := outer) (s := s) (H := H) (E := E)
    have pa0 := pa_of (P := P) (w := w) (K := K) (mg := mg) (base := base) (N := N_law_costs) (qual := "_law_costs") (sc := defScope s_law_costs) (f := a) (cd := cdv) (A := A) (outer := outer) (s := s) (H := H) (E := E)
    exact (xss_cons (xs_setO (fun _ h => ps_set (i := 2) sc_law_costs.nd rfl (by first | exact Or.inl rfl | exact Or.inr rfl) h) (xcat (XX.o_e (xlst (ae_cons xi ae_nil))) (XX.o_e (xcomp (is := [1]) (vs := [1]) (by decide) (fun _ hi => pe_lc (own := [("_law_k", 1)]) rfl sc_law_costs.nd hi (blkOk_by (own := [("_law_k", 1)]) (N := N_law_costs) (sc := defScope s_law_costs) (by decide +kernel)) (fun _ _ _ _ _ => pg_u (xg_name 1 (pg_name (i := 1) sc_law_costs.nd rfl (by first | exact Or.inl rfl | exact Or.inr rfl)))) (fun _ _ _ _ _ => pts_u xts_nil) (fun _ _ _ _ _ => pe_u xn)) (xi_range1 (fun _ h => pi_range1 rfl B.b_range h) (ab_cons (XX.e_b (xlen B.b_len (ab_cons (XX.e_b (xv 0)) ab_nil))) ab_nil))))))
  (xss_cons (xs_for (fun _ _ _ hi hg hb => ps_for pa0 rfl hi hg hb) (xi_range1 (fun _ h => pi_range1 rfl B.b_range h) (ab_cons (XX.e_b (xlen B.b_len (ab_cons (XX.e_b (xv 0)) ab_nil))) ab_nil)) (xg_name 3 (pg_name (i := 3) sc_law_costs.nd rfl (by first | exact Or.inl rfl | exact Or.inr rfl)))
  (xss_cons (xs_if (XW.pt (wand (tgt (xv 3) xi) (wand1 (teq hu (XX.e_b (xix (XX.e_s (xix (XX.e_s (xv 0)) (xsub (xv 3) xi))) xi)) (XX.e_b xi)))))
  (xss_one (xs_setItem (i := 2) (fun _ _ h1 h2 => ps_asg h1 (pg_sub (pv 2) h2 set_list)) (xmin2 rfl B.b_min (ab_cons (XX.e_b (xix (xb 2) (xv 3))) (ab_cons (XX.e_b (xix (xb 2) (xsub (xv 3) xi))) ab_nil))) (xv 3)))
  xss_nil)
  (xss_cons (xs_set (fun _ h => ps_set (i := 4) sc_law_costs.nd rfl (by first | exact Or.inl rfl | exact Or.inr rfl) h) (xadd (xix (xb 2) (xv 3)) (xix (XX.e_s (xix (XX.e_s (xv 0)) (xv 3))) xi)))
  (xss_cons (xs_set (fun _ h => ps_set (i := 5) sc_law_costs.nd rfl (by first | exact Or.inl rfl | exact Or.inr rfl) h) xi)
  (xss_one (xs_for (fun _ _ _ hi hg hb => ps_for pa0 rfl hi hg hb) (xi_range2 (fun _ h => pi_range2 rfl B.b_range h) (ab_cons (XX.e_b (xv 3)) (ab_cons (XX.e_b (xlen B.b_len (ab_cons (XX.e_b (xv 0)) ab_nil))) ab_nil))) (xg_name 6 (pg_name (i := 6) sc_law_costs.nd rfl (by first | exact Or.inl rfl | exact Or.inr rfl)))
  (xss_cons (xs_set (fun _ h => ps_set (i := 4) sc_law_costs.nd rfl (by first | exact Or.inl rfl | exact Or.inr rfl) h) (xadd (xv 4) (xmul (xv 5) (xix (XX.e_s (xix (XX.e_s (xv 0)) (xv 6))) xi))))
  (xss_cons (xs_set (fun _ h => ps_set (i := 5) sc_law_costs.nd rfl (by first | exact Or.inl rfl | exact Or.inr rfl) h) (xadd (xv 5) (xix (XX.e_s (xix (XX.e_s (xv 0)) (xv 6))) xi)))
  (xss_one (xs_if (XW.pt (wor (tisn (XX.e_b (xix (xb 2) (xadd (xv 6) xi)))) (wor1 (tlt (xv 4) (xix (xb 2) (xadd (xv 6) xi))))))
  (xss_one (xs_setItem (i := 2) (fun _ _ h1 h2 => ps_asg h1 (pg_sub (pv 2) h2 set_list)) (xv 4) (xadd (xv 6) xi)))
  xss_nil))))))))))
  (xss_cons (xs_if (XW.pt (wand (tgt (xlen B.b_len (ab_cons (XX.e_b (xv 0)) ab_nil)) xi) (wand1 (teq hu (XX.e_b (xix (XX.e_s (xix (XX.e_s (xv 0)) (xneg xi))) xi)) (XX.e_b xi)))))
  (xss_one (xs_setItem (i := 2) (fun _ _ h1 h2 => ps_asg h1 (pg_sub (pv 2) h2 set_list)) (xmin2 rfl B.b_min (ab_cons (XX.e_b (xix (xb 2) (xneg xi))) (ab_cons (XX.e_b (xix (xb 2) (xneg xi))) ab_nil))) (xneg xi)))
  xss_nil)
  (xss_one (xs_fz 2 (xs_ret (xv 2)))))))
abbrev s_law_high : Stmt := topS 26
abbrev N_law_high : List Str := ["_law_periods_here", "_law_final", "_law_demand", "_law_setup", "_law_hold", "_law_units"]
theorem sc_law_high : FnScope N_law_high ["_law_periods_here", "_law_final"] (defScope s_law_high) := ⟨rfl, rfl, rfl, by decide +kernel, rfl, by decide +kernel, by decide +kernel⟩
theorem ok_law_high {P : Program} {w : World} {K : PySem.W.Frag} {mg : Str → Option Value} {base : Heap} {ca : Nat → Addr} {a : Addr} {fd : FuncData} (F : Fun K "_law_high" "_law_high" s_law_high a fd) (B : Bl mg) (T : Tx P K mg ca)  : FnOk P w K mg base (L2.CX P w) 1 a fd ["_law_periods_here", "_law_final"] (SpF ca cfG .e 2 f_law_high) :=
  fn_body F sc_law_high fun cdv A outer s H E hr => by
    have hu := hr.units
    have tk0 := tk_of (P := P) (w := w) (K := K) (mg := mg) (base := base) (N := N_law_high) (qual := "_law_high") (sc := defScope s_law_high) (f := a) (cd := cdv) (A := A) (outer := outer) (s := s) (H := H) (E := E)
    have pa0 := pa_of (P := P) (w := w) (K := K) (mg := mg) (base := base) (N := N_law_high) (qual := "_law_high") (sc := defScope s_law_high) (f := a) (cd := cdv) (A := A) (outer := outer) (s := s) (H := H) (E := E)
    exact (xss_cons (xs_set (fun _ h => ps_set (i := 5) sc_law_high.nd rfl (by first | exact Or.inl rfl | exact Or.inr rfl) h) (xadd (xv 1) (xsum rfl B.b_sum (ab_cons (XX.e_b (XX.o_e (xcomp (is := [2, 3, 4]) (vs := [2, 3, 4]) (by decide) (fun _ hi => pe_lc (own := [("_law_demand", 2), ("_law_setup", 3), ("_law_hold", 4)]) rfl sc_law_high.nd hi (blkOk_by (own := [("_law_demand", 2), ("_law_setup", 3), ("_law_hold", 4)]) (N := N_law_high) (sc := defScope s_law_high) (by decide +kernel)) (fun _ _ _ _ _ => pg_u (xg_tup (fun _ h => pg_tup rfl h) rfl (xgs_cons (xg_name 2 (pg_name (i := 2) sc_law_high.nd rfl (by first | exact Or.inl rfl | exact Or.inr rfl))) (xgs_cons (xg_name 3 (pg_name (i := 3) sc_law_high.nd rfl (by first | exact Or.inl rfl | exact Or.inr rfl))) (xgs_cons (xg_name 4 (pg_name (i := 4) sc_law_high.nd rfl (by first | exact Or.inl rfl | exact Or.inr rfl))) xgs_nil))))) (fun _ _ _ _ _ => pts_u xts_nil) (fun _ _ _ _ _ => pe_u (xv 2))) (xi_list (xv 0))))) ab_nil))))
  (xss_one (xs_ret (xadd xi (xsum rfl B.b_sum (ab_cons (XX.e_b (XX.o_e (xcomp (is := [2, 3, 4]) (vs := [2, 3, 4]) (by decide) (fun _ hi => pe_lc (own := [("_law_demand", 2), ("_law_setup", 3), ("_law_hold", 4)]) rfl sc_law_high.nd hi (blkOk_by (own := [("_law_demand", 2), ("_law_setup", 3), ("_law_hold", 4)]) (N := N_law_high) (sc := defScope s_law_high) (by decide +kernel)) (fun _ _ _ _ _ => pg_u (xg_tup (fun _ h => pg_tup rfl h) rfl (xgs_cons (xg_name 2 (pg_name (i := 2) sc_law_high.nd rfl (by first | exact Or.inl rfl | exact Or.inr rfl))) (xgs_cons (xg_name 3 (pg_name (i := 3) sc_law_high.nd rfl (by first | exact Or.inl rfl | exact Or.inr rfl))) (xgs_cons (xg_name 4 (pg_name (i := 4) sc_law_high.nd rfl (by first | exact Or.inl rfl | exact Or.inr rfl))) xgs_nil))))) (fun _ _ _ _ _ => pts_u xts_nil) (fun _ _ _ _ _ => pe_u (xadd (xv 3) (xmul (xv 5) (xv 4))))) (xi_list (xv 0))))) ab_nil))))))
abbrev s_law_least : Stmt := topS 27
abbrev N_law_least : List Str := ["_law_periods_here", "_law_final"]
theorem sc_law_least : FnScope N_law_least ["_law_periods_here", "_law_final"] (defScope s_law_least) := ⟨rfl, rfl, rfl, by decide +kernel, rfl, by decide +kernel, by decide +kernel⟩
theorem ok_law_least {P : Program} {w : World} {K : PySem.W.Frag} {mg : Str → Option Value} {base : Heap} {ca : Nat → Addr} {a : Addr} {fd : FuncData} (F : Fun K "_law_least" "_law_least" s_law_least a fd) (B : Bl mg) (T : Tx P K mg ca) {a_law_costs : Addr} {fd_law_costs : FuncData} (C_law_costs : Df P w K mg base ca cfG 1 "_law_costs" a_law_costs fd_law_costs ["_law_periods_here"] .e f_law_costs)
    (B_law_costs : Binds K fd_law_costs ["_law_periods_here"] [])
    {a_law_high : Addr} {fd_law_high : FuncData} (C_law_high : Df P w K mg base ca cfG 1 "_law_high" a_law_high fd_law_high ["_law_periods_here", "_law_final"] .e f_law_high)
    (B_law_high : Binds K fd_law_high ["_law_periods_here", "_law_final"] []) : FnOk P w K mg base (L2.CX P w) 2 a fd ["_law_periods_here", "_law_final"] (SpF ca cfG .e 2 f_law_least) :=
  fn_body F sc_law_least fun cdv A outer s H E hr => by
    have hu := hr.units
    have tk0 := tk_of (P := P) (w := w) (K := K) (mg := mg) (base := base) (N := N_law_least) (qual := "_law_least") (sc := defScope s_law_least) (f := a) (cd := cdv) (A := A) (outer := outer) (s := s) (H := H) (E := E)
    have pa0 := pa_of (P := P) (w := w) (K := K) (mg := mg) (base := base) (N := N_law_least) (qual := "_law_least") (sc := defScope s_law_least) (f := a) (cd := cdv) (A := A) (outer := outer) (s := s) (H := H) (E := E)
    exact (xss_cons (xs_if (teq hu (XX.e_b (xv 1)) (XX.e_b xi))
  (xss_one (xs_ret (xix (XX.e_s (xcallE C_law_costs B_law_costs (hr.mono (by decide)) tk0 (ae_cons (xv 0) ae_nil))) (xneg xi))))
  xss_nil)
  (xss_one (xs_ret (xix (XX.e_s (xcallE C_law_costs B_law_costs (hr.mono (by decide)) tk0 (ae_cons (xadd (xv 0) (XX.o_e (xlst (ae_cons (xtup (ae_cons (xv 1) (ae_cons (xcallE C_law_high B_law_high (hr.mono (by decide)) tk0 (ae_cons (xv 0) (ae_cons (xv 1) ae_nil))) (ae_cons xi ae_nil)))) ae_nil)))) ae_nil))) (xneg xi)))))
abbrev s_law_same : Stmt := topS 28
abbrev N_law_same : List Str := ["_law_actual", "_law_due_here", "_law_k"]
theorem sc_law_same : FnScope N_law_same ["_law_actual", "_law_due_here"] (defScope s_law_same) := ⟨rfl, rfl, rfl, by decide +kernel, rfl, by decide +kernel, by decide +kernel⟩
theorem okr_law_same {P : Program} {w : World} {K : PySem.W.Frag} {mg : Str → Option Value} {base : Heap} {ca : Nat → Addr} {a : Addr} {fd : FuncData} (F : Fun K "_law_same" "_law_same" s_law_same a fd) (B : Bl mg) (T : Tx P K mg ca)  (gm : mg "_law_same" = some (.ref a)) (kp : PySem.W.keepIn K (.ref a) = true) (B_law_same : Binds K fd ["_law_actual", "_law_due_here"] []) : ∀ n, FnOk P w K mg base (L2.CX P w) (1 + n) a fd ["_law_actual", "_law_due_here"] (SpF ca cfG .e 2 (h_law_same n))
  | 0 => ok_stuck
  | n + 1 => by
    have C_law_same : Df P w K mg base ca cfG (1 + n) "_law_same" a fd ["_law_actual", "_law_due_here"] .e (h_law_same n) := ⟨okr_law_same F B T  gm kp B_law_same n, gm, kp, fun ds h => by
      cases n with
      | zero => rfl
      | succ n => exact runB_len ds h⟩
    exact fn_body F sc_law_same (fun cdv A outer s H E hr => by
    have hu := hr.units
    have tk0 := tk_of (P := P) (w := w) (K := K) (mg := mg) (base := base) (N := N_law_same) (qual := "_law_same") (sc := defScope s_law_same) (f := a) (cd := cdv) (A := A) (outer := outer) (s := s) (H := H) (E := E)
    have pa0 := pa_of (P := P) (w := w) (K := K) (mg := mg) (base := base) (N := N_law_same) (qual := "_law_same") (sc := defScope s_law_same) (f := a) (cd := cdv) (A := A) (outer := outer) (s := s) (H := H) (E := E)
    exact (xss_cons (xs_if (tisn (XX.e_b (xv 1)))
  (xss_one (xs_ret (xisn (XX.e_b (xv 0)))))
  xss_nil)
  (xss_cons (xs_if (tval (XX.e_b (xisT (T := "bool") B.b_isinstance (XX.e_b (xv 1)) B.b_bool (by decide +kernel))))
  (xss_one (xs_ret (xand (xisT (T := "bool") B.b_isinstance (XX.e_b (xv 0)) B.b_bool (by decide +kernel)) (xone (xeq hu (XX.e_b (xv 0)) (XX.e_b (xv 1)))))))
  xss_nil)
  (xss_cons (xs_if (tval (XX.e_b (xisT (T := "int") B.b_isinstance (XX.e_b (xv 1)) B.b_int (by decide +kernel))))
  (xss_one (xs_ret (xand (xisT (T := "int") B.b_isinstance (XX.e_b (xv 0)) B.b_int (by decide +kernel)) (xand (xnot (xisT (T := "bool") B.b_isinstance (XX.e_b (xv 0)) B.b_bool (by decide +kernel))) (xone (xeq hu (XX.e_b (xv 0)) (XX.e_b (xv 1))))))))
  xss_nil)
  (xss_cons (xs_if (XW.pt (wand (tval (XX.e_b (xisT (T := "list") B.b_isinstance (XX.e_b (xv 1)) B.b_list (by decide +kernel)))) (wand1 (tnot (tval (XX.e_b (xisT (T := "list") B.b_isinstance (XX.e_b (xv 0)) B.b_list (by decide +kernel))))))))
  (xss_one (xs_ret xbl))
  xss_nil)
  (xss_cons (xs_if (XW.pt (wand (tval (XX.e_b (xisT (T := "tuple") B.b_isinstance (XX.e_b (xv 1)) B.b_tuple (by decide +kernel)))) (wand1 (tnot (tval (XX.e_b (xisT (T := "tuple") B.b_isinstance (XX.e_b (xv 0)) B.b_tuple (by decide +kernel))))))))
  (xss_one (xs_ret xbl))
  xss_nil)
  (xss_cons (xs_if (tne hu (XX.e_b (xlen B.b_len (ab_cons (XX.e_b (xv 0)) ab_nil))) (XX.e_b (xlen B.b_len (ab_cons (XX.e_b (xv 1)) ab_nil))))
  (xss_one (xs_ret xbl))
  xss_nil)
  (xss_cons (xs_for (fun _ _ _ hi hg hb => ps_for pa0 rfl hi hg hb) (xi_range1 (fun _ h => pi_range1 rfl B.b_range h) (ab_cons (XX.e_b (xlen B.b_len (ab_cons (XX.e_b (xv 1)) ab_nil))) ab_nil)) (xg_name 2 (pg_name (i := 2) sc_law_same.nd rfl (by first | exact Or.inl rfl | exact Or.inr rfl)))
  (xss_one (xs_if (tnot (tval (XX.e_b (xcallE C_law_same B_law_same (hr.mono (by first | exact Nat.le_refl _ | omega)) tk0 (ae_cons (xix (XX.e_s (xv 0)) (xv 2)) (ae_cons (xix (XX.e_s (xv 1)) (xv 2)) ae_nil))))))
  (xss_one (xs_ret xbl))
  xss_nil)))
  (xss_one (xs_ret xbl))))))))))
theorem ok_law_same {P : Program} {w : World} {K : PySem.W.Frag} {mg : Str → Option Value} {base : Heap} {ca : Nat → Addr} {a : Addr} {fd : FuncData} (F : Fun K "_law_same" "_law_same" s_law_same a fd) (B : Bl mg) (T : Tx P K mg ca)  (gm : mg "_law_same" = some (.ref a)) (kp : PySem.W.keepIn K (.ref a) = true) (B_law_same : Binds K fd ["_law_actual", "_law_due_here"] []) : FnOk P w K mg base (L2.CX P w) 10 a fd ["_law_actual", "_law_due_here"] (SpF ca cfG .e 2 f_law_same) := okr_law_same F B T  gm kp B_law_same 9
abbrev s_law_lines : Stmt := topS 29
abbrev N_law_lines : List Str := ["_law_periods_here", "_law_costs_here", "_law_lines_here", "_law_start", "_law_base", "_law_rate", "_law_demand", "_law_setup", "_law_hold"]
theorem sc_law_lines : FnScope N_law_lines ["_law_periods_here"] (defScope s_law_lines) := ⟨rfl, rfl, rfl, by decide +kernel, rfl, by decide +kernel, by decide +kernel⟩
theorem ok_law_lines {P : Program} {w : World} {K : PySem.W.Frag} {mg : Str → Option Value} {base : Heap} {ca : Nat → Addr} {a : Addr} {fd : FuncData} (F : Fun K "_law_lines" "_law_lines" s_law_lines a fd) (B : Bl mg) (T : Tx P K mg ca) {a_law_costs : Addr} {fd_law_costs : FuncData} (C_law_costs : Df P w K mg base ca cfG 1 "_law_costs" a_law_costs fd_law_costs ["_law_periods_here"] .e f_law_costs)
    (B_law_costs : Binds K fd_law_costs ["_law_periods_here"] []) : FnOk P w K mg base (L2.CX P w) 2 a fd ["_law_periods_here"] (SpF ca cfG .e 1 f_law_lines) :=
  fn_body F sc_law_lines fun cdv A outer s H E hr => by
    have hu := hr.units
    have tk0 := tk_of (P := P) (w := w) (K := K) (mg := mg) (base := base) (N := N_law_lines) (qual := "_law_lines") (sc := defScope s_law_lines) (f := a) (cd := cdv) (A := A) (outer := outer) (s := s) (H := H) (E := E)
    have pa0 := pa_of (P := P) (w := w) (K := K) (mg := mg) (base := base) (N := N_law_lines) (qual := "_law_lines") (sc := defScope s_law_lines) (f := a) (cd := cdv) (A := A) (outer := outer) (s := s) (H := H) (E := E)
    exact (xss_cons (xs_set (fun _ h => ps_set (i := 1) sc_law_lines.nd rfl (by first | exact Or.inl rfl | exact Or.inr rfl) h) (xcallE C_law_costs B_law_costs (hr.mono (by decide)) tk0 (ae_cons (xv 0) ae_nil)))
  (xss_cons (xs_setO (fun _ h => ps_set (i := 2) sc_law_lines.nd rfl (by first | exact Or.inl rfl | exact Or.inr rfl) h) (xlst ae_nil))
  (xss_cons (xs_for (fun _ _ _ hi hg hb => ps_for pa0 rfl hi hg hb) (xi_range1 (fun _ h => pi_range1 rfl B.b_range h) (ab_cons (XX.e_b (xlen B.b_len (ab_cons (XX.e_b (xv 0)) ab_nil))) ab_nil)) (xg_name 3 (pg_name (i := 3) sc_law_lines.nd rfl (by first | exact Or.inl rfl | exact Or.inr rfl)))
  (xss_cons (xs_set (fun _ h => ps_set (i := 4) sc_law_lines.nd rfl (by first | exact Or.inl rfl | exact Or.inr rfl) h) (xadd (xix (XX.e_s (xv 1)) (xv 3)) (xix (XX.e_s (xix (XX.e_s (xv 0)) (xv 3))) xi)))
  (xss_cons (xs_set (fun _ h => ps_set (i := 5) sc_law_lines.nd rfl (by first | exact Or.inl rfl | exact Or.inr rfl) h) xi)
  (xss_cons (xs_for (fun _ _ _ hi hg hb => ps_for pa0 rfl hi hg hb) (xi_list (XX.o_e (xslice (XX.e_s (xv 0)) (xo_some (xv 3)) xo_none))) (xg_tup (fun _ h => pg_tup rfl h) rfl (xgs_cons (xg_name 6 (pg_name (i := 6) sc_law_lines.nd rfl (by first | exact Or.inl rfl | exact Or.inr rfl))) (xgs_cons (xg_name 7 (pg_name (i := 7) sc_law_lines.nd rfl (by first | exact Or.inl rfl | exact Or.inr rfl))) (xgs_cons (xg_name 8 (pg_name (i := 8) sc_law_lines.nd rfl (by first | exact Or.inl rfl | exact Or.inr rfl))) xgs_nil))))
  (xss_cons (xs_set (fun _ h => ps_set (i := 4) sc_law_lines.nd rfl (by first | exact Or.inl rfl | exact Or.inr rfl) h) (xadd (xv 4) (xmul (xv 5) (xv 6))))
  (xss_one (xs_set (fun _ h => ps_set (i := 5) sc_law_lines.nd rfl (by first | exact Or.inl rfl | exact Or.inr rfl) h) (xadd (xv 5) (xv 8))))))
  (xss_one (xs_append (i := 2) (fun _ h => ps_expr (pe_bm PySem.F.plainAttrs_list PySem.F.slot_list_append PySem.F.type_list_append mt_append (pv 2) h)) (ae_cons (xtup (ae_cons (xv 4) (ae_cons (xv 5) ae_nil))) ae_nil)))))))
  (xss_one (xs_fz 2 (xs_ret (xv 2)))))))
abbrev s_law_pieces : Stmt := topS 30
abbrev N_law_pieces : List Str := ["_law_periods_here", "_law_lines_here", "_law_pieces_here", "_law_final", "_law_turn", "_law_base", "_law_rate", "_law_worths", "_law_start", "_law_here", "_law_last", "_law_other", "_law_flatter"]
theorem sc_law_pieces : FnScope N_law_pieces ["_law_periods_here"] (defScope s_law_pieces) := ⟨rfl, rfl, rfl, by decide +kernel, rfl, by decide +kernel, by decide +kernel⟩
theorem ok_law_pieces {P : Program} {w : World} {K : PySem.W.Frag} {mg : Str → Option Value} {base : Heap} {ca : Nat → Addr} {a : Addr} {fd : FuncData} (F : Fun K "_law_pieces" "_law_pieces" s_law_pieces a fd) (B : Bl mg) (T : Tx P K mg ca) {a_law_lines : Addr} {fd_law_lines : FuncData} (C_law_lines : Df P w K mg base ca cfG 2 "_law_lines" a_law_lines fd_law_lines ["_law_periods_here"] .e f_law_lines)
    (B_law_lines : Binds K fd_law_lines ["_law_periods_here"] []) : FnOk P w K mg base (L2.CX P w) 3 a fd ["_law_periods_here"] (SpF ca cfG (.w (.r (.r .g))) 1 f_law_pieces) :=
  fn_body F sc_law_pieces fun cdv A outer s H E hr => by
    have hu := hr.units
    have tk0 := tk_of (P := P) (w := w) (K := K) (mg := mg) (base := base) (N := N_law_pieces) (qual := "_law_pieces") (sc := defScope s_law_pieces) (f := a) (cd := cdv) (A := A) (outer := outer) (s := s) (H := H) (E := E)
    have pa0 := pa_of (P := P) (w := w) (K := K) (mg := mg) (base := base) (N := N_law_pieces) (qual := "_law_pieces") (sc := defScope s_law_pieces) (f := a) (cd := cdv) (A := A) (outer := outer) (s := s) (H := H) (E := E)
    exact (xss_cons (xs_set (fun _ h => ps_set (i := 1) sc_law_pieces.nd rfl (by first | exact Or.inl rfl | exact Or.inr rfl) h) (xcallE C_law_lines B_law_lines (hr.mono (by decide)) tk0 (ae_cons (xv 0) ae_nil)))
  (xss_cons (xs_setW (fun _ h => ps_set (i := 2) sc_law_pieces.nd rfl (by first | exact Or.inl rfl | exact Or.inr rfl) h) (xlstW rfl aw_nil))
  (xss_cons (xs_set (fun _ h => ps_set (i := 3) sc_law_pieces.nd rfl (by first | exact Or.inl rfl | exact Or.inr rfl) h) xi)
  (xss_cons (xs_for (fun _ _ _ hi hg hb => ps_for pa0 rfl hi hg hb) (xi_range1 (fun _ h => pi_range1 rfl B.b_range h) (ab_cons (XX.e_b (xlen B.b_len (ab_cons (XX.e_b (xv 1)) ab_nil))) ab_nil)) (xg_name 4 (pg_name (i := 4) sc_law_pieces.nd rfl (by first | exact Or.inl rfl | exact Or.inr rfl)))
  (xss_cons (xs_set (fun _ h => ps_set (i := 7) sc_law_pieces.nd rfl (by first | exact Or.inl rfl | exact Or.inr rfl) h) (XX.o_e (xcomp (is := [5, 6]) (vs := [5, 6]) (by decide) (fun _ hi => pe_lc (own := [("_law_base", 5), ("_law_rate", 6)]) rfl sc_law_pieces.nd hi (blkOk_by (own := [("_law_base", 5), ("_law_rate", 6)]) (N := N_law_pieces) (sc := defScope s_law_pieces) (by decide +kernel)) (fun _ _ _ _ _ => pg_u (xg_tup (fun _ h => pg_tup rfl h) rfl (xgs_cons (xg_name 5 (pg_name (i := 5) sc_law_pieces.nd rfl (by first | exact Or.inl rfl | exact Or.inr rfl))) (xgs_cons (xg_name 6 (pg_name (i := 6) sc_law_pieces.nd rfl (by first | exact Or.inl rfl | exact Or.inr rfl))) xgs_nil)))) (fun _ _ _ _ _ => pts_u xts_nil) (fun _ _ _ _ _ => pe_u (xadd (xv 5) (xmul (xv 6) (xv 3))))) (xi_list (xv 1)))))
  (xss_cons (xs_comp (i := 9) (is := [8]) (vs := [8]) (by decide) (fun _ hi => ps_setLc (i := 9) (own := [("_law_start", 8)]) rfl sc_law_pieces.nd rfl rfl (sw_true rfl rfl rfl (by decide +kernel)) hi (blkOk_by (own := [("_law_start", 8)]) (N := N_law_pieces) (sc := defScope s_law_pieces) (by decide +kernel)) (fun _ _ _ _ _ => pg_u (xg_name 8 (pg_name (i := 8) sc_law_pieces.nd rfl (by first | exact Or.inl rfl | exact Or.inr rfl)))) (fun _ _ _ _ _ => pts_u (xts_one (teq hu (XX.e_b (xix (XX.e_s (xv 7)) (xv 8))) (XX.e_b (xmin rfl B.b_min (ab_cons (XX.e_b (xv 7)) ab_nil)))))) (fun _ _ _ _ _ => pe_u (xv 8))) (xi_range1 (fun _ h => pi_range1 rfl B.b_range h) (ab_cons (XX.e_b (xlen B.b_len (ab_cons (XX.e_b (xv 1)) ab_nil))) ab_nil)))
  (xss_cons (xs_for (fun _ _ _ hi hg hb => ps_for pa0 rfl hi hg hb) (xi_list (xv 9)) (xg_name 8 (pg_name (i := 8) sc_law_pieces.nd rfl (by first | exact Or.inl rfl | exact Or.inr rfl)))
  (xss_one (xs_if (XW.pt (wand (tgt (xlen B.b_len (ab_cons (xbt 2) ab_nil)) xi) (wand1 (teq hu (xixb (xixb (xbt 2) (xneg xi)) xi) (XX.e_b (xv 8))))))
  (xss_one (xs_setP (i := 2) (fun _ _ _ h1 h2 h3 => ps_asg h1 (pg_sub (pe_ix (ix_list.or ix_tup) (pv 2) h2 (fun _ _ => rfl)) h3 set_list)) (xv 3) (xneg xi) xi))
  (xss_one (xs_appW (i := 2) (fun _ h => ps_expr (pe_bm PySem.F.plainAttrs_list PySem.F.slot_list_append PySem.F.type_list_append mt_append (pv 2) h)) (XX.o_w (xlst (ae_cons (xv 8) (ae_cons (xv 3) (ae_cons (xv 3) ae_nil))))))))))
  (xss_cons (xs_set (fun _ h => ps_set (i := 10) sc_law_pieces.nd rfl (by first | exact Or.inl rfl | exact Or.inr rfl) h) (xix (XX.e_s (xv 9)) (xneg xi)))
  (xss_cons (xs_if (teq hu (XX.e_b (xv 10)) (XX.e_b (xsub (xlen B.b_len (ab_cons (XX.e_b (xv 1)) ab_nil)) xi)))
  (xss_cons (xs_setP (i := 2) (fun _ _ _ h1 h2 h3 => ps_asg h1 (pg_sub (pe_ix (ix_list.or ix_tup) (pv 2) h2 (fun _ _ => rfl)) h3 set_list)) xn (xneg xi) xi)
  (xss_one xs_break))
  xss_nil)
  (xss_cons (xs_asgT (fun _ _ h1 h2 => ps_asg h1 h2) (xix (XX.e_s (xv 1)) (xv 10)) (xg_tup (fun _ h => pg_tup rfl h) rfl (xgs_cons (xg_name 5 (pg_name (i := 5) sc_law_pieces.nd rfl (by first | exact Or.inl rfl | exact Or.inr rfl))) (xgs_cons (xg_name 6 (pg_name (i := 6) sc_law_pieces.nd rfl (by first | exact Or.inl rfl | exact Or.inr rfl))) xgs_nil))))
  (xss_cons (xs_set (fun _ h => ps_set (i := 3) sc_law_pieces.nd rfl (by first | exact Or.inl rfl | exact Or.inr rfl) h) (xmin rfl B.b_min (ab_cons (XX.e_b (XX.o_e (xcomp (is := [11, 12]) (vs := [11, 12]) (by decide) (fun _ hi => pe_lc (own := [("_law_other", 11), ("_law_flatter", 12)]) rfl sc_law_pieces.nd hi (blkOk_by (own := [("_law_other", 11), ("_law_flatter", 12)]) (N := N_law_pieces) (sc := defScope s_law_pieces) (by decide +kernel)) (fun _ _ _ _ _ => pg_u (xg_tup (fun _ h => pg_tup rfl h) rfl (xgs_cons (xg_name 11 (pg_name (i := 11) sc_law_pieces.nd rfl (by first | exact Or.inl rfl | exact Or.inr rfl))) (xgs_cons (xg_name 12 (pg_name (i := 12) sc_law_pieces.nd rfl (by first | exact Or.inl rfl | exact Or.inr rfl))) xgs_nil)))) (fun _ _ _ _ _ => pts_u xts_nil) (fun _ _ _ _ _ => pe_u (xneg (xdiv (xsub (xv 5) (xv 11)) (xsub (xv 6) (xv 12)))))) (xi_list (XX.o_e (xslice (XX.e_s (xv 1)) (xo_some (xadd (xv 10) xi)) xo_none)))))) ab_nil)))
  (xss_one (xs_setP (i := 2) (fun _ _ _ h1 h2 h3 => ps_asg h1 (pg_sub (pe_ix (ix_list.or ix_tup) (pv 2) h2 (fun _ _ => rfl)) h3 set_list)) (xsub (xv 3) xi) (xneg xi) xi))))))))))
  (xss_one (xs_retW (pv 2)))))))
abbrev s_law_asked : Stmt := topS 31
abbrev N_law_asked : List Str := ["_law_rows", "_law_finals"]
theorem sc_law_asked : FnScope N_law_asked ["_law_rows", "_law_finals"] (defScope s_law_asked) := ⟨rfl, rfl, rfl, by decide +kernel, rfl, by decide +kernel, by decide +kernel⟩
theorem ok_law_asked {P : Program} {w : World} {K : PySem.W.Frag} {mg : Str → Option Value} {base : Heap} {ca : Nat → Addr} {a : Addr} {fd : FuncData} (F : Fun K "_law_asked" "_law_asked" s_law_asked a fd) (B : Bl mg) (T : Tx P K mg ca)  : FnOk P w K mg base (L2.CX P w) 1 a fd ["_law_rows", "_law_finals"] (SpF ca cfG .e 2 f_law_asked) :=
  fn_body F sc_law_asked fun cdv A outer s H E hr => by
    have hu := hr.units
    have tk0 := tk_of (P := P) (w := w) (K := K) (mg := mg) (base := base) (N := N_law_asked) (qual := "_law_asked") (sc := defScope s_law_asked) (f := a) (cd := cdv) (A := A) (outer := outer) (s := s) (H := H) (E := E)
    have pa0 := pa_of (P := P) (w := w) (K := K) (mg := mg) (base := base) (N := N_law_asked) (qual := "_law_asked") (sc := defScope s_law_asked) (f := a) (cd := cdv) (A := A) (outer := outer) (s := s) (H := H) (E := E)
    exact (xss_cons (xs_if (teq hu (XX.e_b (xlen B.b_len (ab_cons (XX.e_b (xv 0)) ab_nil))) (XX.e_b xi))
  (xss_one (xs_ret (XX.o_e (xlst (ae_cons xi ae_nil)))))
  xss_nil)
  (xss_one (xs_ret (xv 1))))
abbrev s_law_due : Stmt := topS 32
abbrev N_law_due : List Str := ["_law_rows", "_law_finals", "_law_lines_here", "_law_pieces_here", "_law_start", "_law_low", "_law_high_here", "_law_final", "_law_answers"]
theorem sc_law_due : FnScope N_law_due ["_law_rows", "_law_finals"] (defScope s_law_due) := ⟨rfl, rfl, rfl, by decide +kernel, rfl, by decide +kernel, by decide +kernel⟩
theorem ok_law_due {P : Program} {w : World} {K : PySem.W.Frag} {mg : Str → Option Value} {base : Heap} {ca : Nat → Addr} {a : Addr} {fd : FuncData} (F : Fun K "_law_due" "_law_due" s_law_due a fd) (B : Bl mg) (T : Tx P K mg ca) {a_law_costs : Addr} {fd_law_costs : FuncData} (C_law_costs : Df P w K mg base ca cfG 1 "_law_costs" a_law_costs fd_law_costs ["_law_periods_here"] .e f_law_costs)
    (B_law_costs : Binds K fd_law_costs ["_law_periods_here"] [])
    {a_law_least : Addr} {fd_law_least : FuncData} (C_law_least : Df P w K mg base ca cfG 2 "_law_least" a_law_least fd_law_least ["_law_periods_here", "_law_final"] .e f_law_least)
    (B_law_least : Binds K fd_law_least ["_law_periods_here", "_law_final"] [])
    {a_law_lines : Addr} {fd_law_lines : FuncData} (C_law_lines : Df P w K mg base ca cfG 2 "_law_lines" a_law_lines fd_law_lines ["_law_periods_here"] .e f_law_lines)
    (B_law_lines : Binds K fd_law_lines ["_law_periods_here"] [])
    {a_law_pieces : Addr} {fd_law_pieces : FuncData} (C_law_pieces : Df P w K mg base ca cfG 3 "_law_pieces" a_law_pieces fd_law_pieces ["_law_periods_here"] (.w (.r (.r .g))) f_law_pieces)
    (B_law_pieces : Binds K fd_law_pieces ["_law_periods_here"] [])
    {a_law_asked : Addr} {fd_law_asked : FuncData} (C_law_asked : Df P w K mg base ca cfG 1 "_law_asked" a_law_asked fd_law_asked ["_law_rows", "_law_finals"] .e f_law_asked)
    (B_law_asked : Binds K fd_law_asked ["_law_rows", "_law_finals"] []) : FnOk P w K mg base (L2.CX P w) 4 a fd ["_law_rows", "_law_finals"] (SpF ca cfG .e 2 f_law_due) :=
  fn_body F sc_law_due fun cdv A outer s H E hr => by
    have hu := hr.units
    have tk0 := tk_of (P := P) (w := w) (K := K) (mg := mg) (base := base) (N := N_law_due) (qual := "_law_due") (sc := defScope s_law_due) (f := a) (cd := cdv) (A := A) (outer := outer) (s := s) (H := H) (E := E)
    have pa0 := pa_of (P := P) (w := w) (K := K) (mg := mg) (base := base) (N := N_law_due) (qual := "_law_due") (sc := defScope s_law_due) (f := a) (cd := cdv) (A := A) (outer := outer) (s := s) (H := H) (E := E)
    exact (xss_cons (xs_set (fun _ h => ps_set (i := 2) sc_law_due.nd rfl (by first | exact Or.inl rfl | exact Or.inr rfl) h) (xcallE C_law_lines B_law_lines (hr.mono (by decide)) tk0 (ae_cons (xv 0) ae_nil)))
  (xss_cons (xs_setO (fun _ h => ps_set (i := 3) sc_law_due.nd rfl (by first | exact Or.inl rfl | exact Or.inr rfl) h) (xlst ae_nil))
  (xss_cons (xs_for (fun _ _ _ hi hg hb => ps_for pa0 rfl hi hg hb) (xi_list (XX.w_e rfl (xcallW C_law_pieces B_law_pieces (hr.mono (by decide)) tk0 (ae_cons (xv 0) ae_nil)))) (xg_lst (fun _ h => pg_lstU rfl h) rfl (xgs_cons (xg_name 4 (pg_name (i := 4) sc_law_due.nd rfl (by first | exact Or.inl rfl | exact Or.inr rfl))) (xgs_cons (xg_name 5 (pg_name (i := 5) sc_law_due.nd rfl (by first | exact Or.inl rfl | exact Or.inr rfl))) (xgs_cons (xg_name 6 (pg_name (i := 6) sc_law_due.nd rfl (by first | exact Or.inl rfl | exact Or.inr rfl))) xgs_nil))))
  (xss_one (xs_append (i := 3) (fun _ h => ps_expr (pe_bm PySem.F.plainAttrs_list PySem.F.slot_list_append PySem.F.type_list_append mt_append (pv 3) h)) (ae_cons (xtup (ae_cons (xv 4) (ae_cons (xv 5) (ae_cons (xv 6) (ae_cons (xix (XX.e_s (xix (XX.e_s (xv 2)) (xv 4))) xi) (ae_cons (xix (XX.e_s (xix (XX.e_s (xv 2)) (xv 4))) xi) ae_nil)))))) ae_nil))))
  (xss_cons (xs_comp (i := 8) (is := [7]) (vs := [7]) (by decide) (fun _ hi => ps_setLc (i := 8) (own := [("_law_final", 7)]) rfl sc_law_due.nd rfl rfl (sw_true rfl rfl rfl (by decide +kernel)) hi (blkOk_by (own := [("_law_final", 7)]) (N := N_law_due) (sc := defScope s_law_due) (by decide +kernel)) (fun _ _ _ _ _ => pg_u (xg_name 7 (pg_name (i := 7) sc_law_due.nd rfl (by first | exact Or.inl rfl | exact Or.inr rfl)))) (fun _ _ _ _ _ => pts_u xts_nil) (fun _ _ _ _ _ => pe_u (xcallE C_law_least B_law_least (hr.mono (by decide)) takes0 (ae_cons (xv 0) (ae_cons (xv 7) ae_nil))))) (xi_list (xcallE C_law_asked B_law_asked (hr.mono (by decide)) tk0 (ae_cons (xv 0) (ae_cons (xv 1) ae_nil)))))
  (xss_one (xs_fz 3 (xs_ret (XX.o_e (xlst (ae_cons (xv 3) (ae_cons (xlen B.b_len (ab_cons (XX.e_b (xv 0)) ab_nil)) (ae_cons (xix (XX.e_s (xcallE C_law_costs B_law_costs (hr.mono (by decide)) tk0 (ae_cons (xv 0) ae_nil))) (xneg xi)) (ae_cons (xv 8) ae_nil)))))))))))))
abbrev s_law_is : Stmt := topS 33
abbrev N_law_is : List Str := ["_law_held", "_law_rows", "_law_finals", "_law_due_here", "_law_final", "_law_answers"]
theorem sc_law_is : FnScope N_law_is ["_law_held", "_law_rows", "_law_finals", "_law_due_here"] (defScope s_law_is) := ⟨rfl, rfl, rfl, by decide +kernel, rfl, by decide +kernel, by decide +kernel⟩
theorem ok_law_is {P : Program} {w : World} {K : PySem.W.Frag} {mg : Str → Option Value} {base : Heap} {ca : Nat → Addr} {a : Addr} {fd : FuncData} (F : Fun K "_law_is" "_law_is" s_law_is a fd) (B : Bl mg) (T : Tx P K mg ca) {pC : Addr}
    {a_Profile_init a_Profile_initJ a_Profile_call a_Profile_iter a_Profile_then : Addr} (O_Profile : Ox_Profile K mg pC a_Profile_init a_Profile_initJ a_Profile_call a_Profile_iter a_Profile_then)
    {a_law_same : Addr} {fd_law_same : FuncData} (C_law_same : Df P w K mg base ca cfG 10 "_law_same" a_law_same fd_law_same ["_law_actual", "_law_due_here"] .e f_law_same)
    (B_law_same : Binds K fd_law_same ["_law_actual", "_law_due_here"] [])
    {a_law_asked : Addr} {fd_law_asked : FuncData} (C_law_asked : Df P w K mg base ca cfG 1 "_law_asked" a_law_asked fd_law_asked ["_law_rows", "_law_finals"] .e f_law_asked)
    (B_law_asked : Binds K fd_law_asked ["_law_rows", "_law_finals"] [])
    {fd_Profile_call : FuncData}
    (C_Profile_call : FnOk P w K mg base (L2.CX P w) 1 a_Profile_call fd_Profile_call ["self", "ending"] (SpF ca cfG .e 2 (f_Profile_call pC)))
    (B_Profile_call : Binds K fd_Profile_call ["self", "ending"] [])
    {fd_Profile_iter : FuncData}
    (C_Profile_iter : FnOk P w K mg base (L2.CX P w) 1 a_Profile_iter fd_Profile_iter ["self"] (spIt pC "pieces"))
    (B_Profile_iter : Binds K fd_Profile_iter ["self"] []) : FnOk P w K mg base (L2.CX P w) 11 a fd ["_law_held", "_law_rows", "_law_finals", "_law_due_here"] (SpF ca cfG .e 4 (f_law_is_k22 pC)) :=
  fn_body F sc_law_is fun cdv A outer s H E hr => by
    have hu := hr.units
    have tk0 := tk_of (P := P) (w := w) (K := K) (mg := mg) (base := base) (N := N_law_is) (qual := "_law_is") (sc := defScope s_law_is) (f := a) (cd := cdv) (A := A) (outer := outer) (s := s) (H := H) (E := E)
    have pa0 := pa_of (P := P) (w := w) (K := K) (mg := mg) (base := base) (N := N_law_is) (qual := "_law_is") (sc := defScope s_law_is) (f := a) (cd := cdv) (A := A) (outer := outer) (s := s) (H := H) (E := E)
    exact (xss_cons (xs_comp (i := 5) (is := [4]) (vs := [4]) (by decide) (fun _ hi => ps_setLc (i := 5) (own := [("_law_final", 4)]) rfl sc_law_is.nd rfl rfl (sw_true rfl rfl rfl (by decide +kernel)) hi (blkOk_by (own := [("_law_final", 4)]) (N := N_law_is) (sc := defScope s_law_is) (by decide +kernel)) (fun _ _ _ _ _ => pg_u (xg_name 4 (pg_name (i := 4) sc_law_is.nd rfl (by first | exact Or.inl rfl | exact Or.inr rfl)))) (fun _ _ _ _ _ => pts_u xts_nil) (fun _ _ _ _ _ => pe_u (xcallOG O_Profile.cl O_Profile.co C_Profile_call B_Profile_call (hr.mono (by decide)) takes0 (fun ds h => runB_len ds h) (xv 0) (ae_cons (xv 4) ae_nil)))) (xi_list (xcallE C_law_asked B_law_asked (hr.mono (by decide)) tk0 (ae_cons (xv 1) (ae_cons (xv 2) ae_nil)))))
  (xss_one (xs_ret (xcallE C_law_same B_law_same (hr.mono (by decide)) tk0 (ae_cons (XX.o_e (xlst (ae_cons (XX.o_e (xlistOG rfl O_Profile.cl rfl O_Profile.it C_Profile_iter B_Profile_iter (hr.mono (by decide)) B.b_list (xv 0))) (ae_cons (xfldG O_Profile.cl rfl (xv 0)) (ae_cons (xfldG O_Profile.cl rfl (xv 0)) (ae_cons (xv 5) ae_nil)))))) (ae_cons (xv 3) ae_nil))))))
abbrev s_law_then : Stmt := topS 34
abbrev N_law_then : List Str := ["_law_held", "_law_extra", "_law_due_here", "_law_after"]
theorem sc_law_then : FnScope N_law_then ["_law_held", "_law_extra", "_law_due_here"] (defScope s_law_then) := ⟨rfl, rfl, rfl, by decide +kernel, rfl, by decide +kernel, by decide +kernel⟩
theorem ok_law_then {P : Program} {w : World} {K : PySem.W.Frag} {mg : Str → Option Value} {base : Heap} {ca : Nat → Addr} {a : Addr} {fd : FuncData} (F : Fun K "_law_then" "_law_then" s_law_then a fd) (B : Bl mg) (T : Tx P K mg ca) {pC : Addr}
    {a_Profile_init a_Profile_initJ a_Profile_call a_Profile_iter a_Profile_then : Addr} (O_Profile : Ox_Profile K mg pC a_Profile_init a_Profile_initJ a_Profile_call a_Profile_iter a_Profile_then)
    {a_law_same : Addr} {fd_law_same : FuncData} (C_law_same : Df P w K mg base ca cfG 10 "_law_same" a_law_same fd_law_same ["_law_actual", "_law_due_here"] .e f_law_same)
    (B_law_same : Binds K fd_law_same ["_law_actual", "_law_due_here"] [])
    {fd_Profile_iter : FuncData}
    (C_Profile_iter : FnOk P w K mg base (L2.CX P w) 1 a_Profile_iter fd_Profile_iter ["self"] (spIt pC "pieces"))
    (B_Profile_iter : Binds K fd_Profile_iter ["self"] [])
    {fd_Profile_then : FuncData}
    (C_Profile_then : FnOk P w K mg base (L2.CX P w) 7 a_Profile_then fd_Profile_then ["self", "period"] (SpF ca cfG .e 2 (f_Profile_then pC)))
    (B_Profile_then : Binds K fd_Profile_then ["self", "period"] []) : FnOk P w K mg base (L2.CX P w) 11 a fd ["_law_held", "_law_extra", "_law_due_here"] (SpF ca cfG .e 3 (f_law_then_k22 pC)) :=
  fn_body F sc_law_then fun cdv A outer s H E hr => by
    have hu := hr.units
    have tk0 := tk_of (P := P) (w := w) (K := K) (mg := mg) (base := base) (N := N_law_then) (qual := "_law_then") (sc := defScope s_law_then) (f := a) (cd := cdv) (A := A) (outer := outer) (s := s) (H := H) (E := E)
    have pa0 := pa_of (P := P) (w := w) (K := K) (mg := mg) (base := base) (N := N_law_then) (qual := "_law_then") (sc := defScope s_law_then) (f := a) (cd := cdv) (A := A) (outer := outer) (s := s) (H := H) (E := E)
    exact (xss_cons (xs_set (fun _ h => ps_set (i := 3) sc_law_then.nd rfl (by first | exact Or.inl rfl | exact Or.inr rfl) h) (xmethG O_Profile.cl O_Profile.m_then C_Profile_then (by decide +kernel) B_Profile_then (hr.mono (by decide)) tk0 (fun ds h => runB_len ds h) (xv 0) (ae_cons (xv 1) ae_nil)))
  (xss_one (xs_ret (xcallE C_law_same B_law_same (hr.mono (by decide)) tk0 (ae_cons (XX.o_e (xlst (ae_cons (XX.o_e (xlistOG rfl O_Profile.cl rfl O_Profile.it C_Profile_iter B_Profile_iter (hr.mono (by decide)) B.b_list (xv 3))) (ae_cons (xfldG O_Profile.cl rfl (xv 3)) (ae_cons (xfldG O_Profile.cl rfl (xv 3)) ae_nil))))) (ae_cons (XX.o_e (xslice (XX.e_s (xv 2)) xo_none (xo_some xi))) ae_nil))))))
abbrev s_law_change : Stmt := topS 35
abbrev N_law_change : List Str := ["_law_given", "_law_extra", "_law_number_here", "_law_kind"]
theorem sc_law_change : FnScope N_law_change ["_law_given", "_law_extra", "_law_number_here"] (defScope s_law_change) := ⟨rfl, rfl, rfl, by decide +kernel, rfl, by decide +kernel, by decide +kernel⟩
theorem ok_law_change {P : Program} {w : World} {K : PySem.W.Frag} {mg : Str → Option Value} {base : Heap} {ca : Nat → Addr} {a : Addr} {fd : FuncData} (F : Fun K "_law_change" "_law_change" s_law_change a fd) (B : Bl mg) (T : Tx P K mg ca) {pC : Addr}
    {a_Profile_init a_Profile_initJ a_Profile_call a_Profile_iter a_Profile_then : Addr} (O_Profile : Ox_Profile K mg pC a_Profile_init a_Profile_initJ a_Profile_call a_Profile_iter a_Profile_then) : FnOk P w K mg base (L2.CX P w) 1 a fd ["_law_given", "_law_extra", "_law_number_here"] (SpI ca cfG (.g) ms_law_change_k22 (f_law_change_k22 pC)) :=
  fn_bodyJ F sc_law_change rfl (fun vs hl cdv A outer s H E hr => by
    have hu := hr.units
    have tk0 := tk_of (P := P) (w := w) (K := K) (mg := mg) (base := base) (N := N_law_change) (qual := "_law_change") (sc := defScope s_law_change) (f := a) (cd := cdv) (A := A) (outer := outer) (s := s) (H := H) (E := E)
    have pa0 := pa_of (P := P) (w := w) (K := K) (mg := mg) (base := base) (N := N_law_change) (qual := "_law_change") (sc := defScope s_law_change) (f := a) (cd := cdv) (A := A) (outer := outer) (s := s) (H := H) (E := E)
    exact (xss_cons (xs_set (fun _ h => ps_set (i := 3) sc_law_change.nd rfl (by first | exact Or.inl rfl | exact Or.inr rfl) h) (xmod (xint B.b_int (ab_cons (XX.e_b (xv 2)) ab_nil)) xi))
  (xss_cons (xs_if (teq hu (XX.e_b (xv 3)) (XX.e_b xi))
  (xss_one (xs_setItem (i := 0) (fun _ _ h1 h2 => ps_asg h1 (pg_sub (pv 0) h2 set_list)) (xv 1) xi))
  xss_nil)
  (xss_cons (xs_if (teq hu (XX.e_b (xv 3)) (XX.e_b xi))
  (xss_one (xs_append (i := 0) (fun _ h => ps_expr (pe_bm PySem.F.plainAttrs_list PySem.F.slot_list_append PySem.F.type_list_append mt_append (pv 0) h)) (ae_cons (xv 1) ae_nil)))
  xss_nil)
  (xss_cons (xs_if (teq hu (XX.e_b (xv 3)) (XX.e_b xi))
  (xss_one (xs_clear (i := 0) (ps_expr (pe_bm0 PySem.F.plainAttrs_list PySem.F.slot_list_clear PySem.F.type_list_clear mt_clear (pv 0)))))
  xss_nil)
  (xss_cons (xs_if (teq hu (XX.e_b (xv 3)) (XX.e_b xi))
  (xss_one (xs_pop (i := 0) (ps_expr (pe_bm0 PySem.F.plainAttrs_list PySem.F.slot_list_pop PySem.F.type_list_pop mt_pop (pv 0)))))
  xss_nil)
  (xss_one (xs_if (teq hu (XX.e_b (xv 3)) (XX.e_b xi))
  (xss_cons (xs_reverse (i := 0) (ps_expr (pe_bm0 PySem.F.plainAttrs_list PySem.F.slot_list_reverse PySem.F.type_list_reverse mt_reverse (pv 0))))
  (xss_one (xs_insert (i := 0) (fun _ h => ps_expr (pe_bm PySem.F.plainAttrs_list PySem.F.slot_list_insert PySem.F.type_list_insert mt_insert (pv 0) h)) (ae_cons xi (ae_cons (xv 1) ae_nil)))))
  xss_nil))))))))
abbrev s_law : Stmt := topS 36
abbrev N_law : List Str := ["_law_script", "_law_scale", "_law_known", "_law_later", "_law_rows", "_law_extra", "_law_number_here", "_law_finals", "_law_due_here", "_law_longer", "_law_fifth", "_law_given", "_law_held", "_law_changed", "_law_other", "_law_told", "_law_second", "_law_turn"]
theorem sc_law : FnScope N_law ["_law_script"] (defScope s_law) := ⟨rfl, rfl, rfl, by decide +kernel, rfl, by decide +kernel, by decide +kernel⟩
theorem ok_law {P : Program} {w : World} {K : PySem.W.Frag} {mg : Str → Option Value} {base : Heap} {ca : Nat → Addr} {a : Addr} {fd : FuncData} (F : Fun K "law" "law" s_law a fd) (B : Bl mg) (T : Tx P K mg ca) {pC : Addr}
    {a_Profile_init a_Profile_initJ a_Profile_call a_Profile_iter a_Profile_then : Addr} (O_Profile : Ox_Profile K mg pC a_Profile_init a_Profile_initJ a_Profile_call a_Profile_iter a_Profile_then)
    {a_law_number : Addr} {fd_law_number : FuncData} (C_law_number : Df P w K mg base ca cfG 2 "_law_number" a_law_number fd_law_number ["_law_script", "_law_k"] .e f_law_number)
    (B_law_number : Binds K fd_law_number ["_law_script", "_law_k"] [])
    {a_law_period : Addr} {fd_law_period : FuncData} (C_law_period : Df P w K mg base ca cfG 1 "_law_period" a_law_period fd_law_period ["_law_number_here", "_law_scale"] .e f_law_period)
    (B_law_period : Binds K fd_law_period ["_law_number_here", "_law_scale"] [])
    {a_law_periods : Addr} {fd_law_periods : FuncData} (C_law_periods : Df P w K mg base ca cfG 3 "_law_periods" a_law_periods fd_law_periods ["_law_script", "_law_start", "_law_count", "_law_scale"] .o f_law_periods)
    (B_law_periods : Binds K fd_law_periods ["_law_script", "_law_start", "_law_count", "_law_scale"] [])
    {a_law_shape : Addr} {fd_law_shape : FuncData} (C_law_shape : Df P w K mg base ca cfG 2 "_law_shape" a_law_shape fd_law_shape ["_law_script", "_law_most"] .e f_law_shape)
    (B_law_shape : Binds K fd_law_shape ["_law_script", "_law_most"] [])
    {a_law_grown : Addr} {fd_law_grown : FuncData} (C_law_grown : Df P w K mg base ca cfG 3 "_law_grown" a_law_grown fd_law_grown ["_law_script", "_law_many"] .e f_law_grown)
    (B_law_grown : Binds K fd_law_grown ["_law_script", "_law_many"] [])
    {a_law_least : Addr} {fd_law_least : FuncData} (C_law_least : Df P w K mg base ca cfG 2 "_law_least" a_law_least fd_law_least ["_law_periods_here", "_law_final"] .e f_law_least)
    (B_law_least : Binds K fd_law_least ["_law_periods_here", "_law_final"] [])
    {a_law_same : Addr} {fd_law_same : FuncData} (C_law_same : Df P w K mg base ca cfG 10 "_law_same" a_law_same fd_law_same ["_law_actual", "_law_due_here"] .e f_law_same)
    (B_law_same : Binds K fd_law_same ["_law_actual", "_law_due_here"] [])
    {a_law_due : Addr} {fd_law_due : FuncData} (C_law_due : Df P w K mg base ca cfG 4 "_law_due" a_law_due fd_law_due ["_law_rows", "_law_finals"] .e f_law_due)
    (B_law_due : Binds K fd_law_due ["_law_rows", "_law_finals"] [])
    {a_law_is : Addr} {fd_law_is : FuncData} (C_law_is : Df P w K mg base ca cfG 11 "_law_is" a_law_is fd_law_is ["_law_held", "_law_rows", "_law_finals", "_law_due_here"] .e (f_law_is_k22 pC))
    (B_law_is : Binds K fd_law_is ["_law_held", "_law_rows", "_law_finals", "_law_due_here"] [])
    {a_law_then : Addr} {fd_law_then : FuncData} (C_law_then : Df P w K mg base ca cfG 11 "_law_then" a_law_then fd_law_then ["_law_held", "_law_extra", "_law_due_here"] .e (f_law_then_k22 pC))
    (B_law_then : Binds K fd_law_then ["_law_held", "_law_extra", "_law_due_here"] [])
    {a_law_change : Addr} {fd_law_change : FuncData} (C_law_change : FnOk P w K mg base (L2.CX P w) 1 a_law_change fd_law_change ["_law_given", "_law_extra", "_law_number_here"] (SpI ca cfG (.g) ms_law_change_k22 (f_law_change_k22 pC)) ∧ mg "_law_change" = some (.ref a_law_change) ∧ PySem.W.keepIn K (.ref a_law_change) = true)
    (B_law_change : Binds K fd_law_change ["_law_given", "_law_extra", "_law_number_here"] [])
    {fd_Profile_initJ : FuncData}
    (C_Profile_initJ : FnOk P w K mg base (L2.CX P w) 5 a_Profile_initJ fd_Profile_initJ ["self", "periods"] (SpI ca cfG (.g) ms_Profile_initJ (f_Profile_initJ pC)))
    (B_Profile_initJ : Binds K fd_Profile_initJ ["self", "periods"] [])
    {fd_Profile_call : FuncData}
    (C_Profile_call : FnOk P w K mg base (L2.CX P w) 1 a_Profile_call fd_Profile_call ["self", "ending"] (SpF ca cfG .e 2 (f_Profile_call pC)))
    (B_Profile_call : Binds K fd_Profile_call ["self", "ending"] [])
    {fd_Profile_iter : FuncData}
    (C_Profile_iter : FnOk P w K mg base (L2.CX P w) 1 a_Profile_iter fd_Profile_iter ["self"] (spIt pC "pieces"))
    (B_Profile_iter : Binds K fd_Profile_iter ["self"] []) : FnOk P w K mg base (L2.CX P w) 12 a fd ["_law_script"] (SpF ca cfG .e 1 (f_law_k22 pC)) :=
  fn_body F sc_law fun cdv A outer s H E hr => by
    have hu := hr.units
    have tk0 := tk_of (P := P) (w := w) (K := K) (mg := mg) (base := base) (N := N_law) (qual := "law") (sc := defScope s_law) (f := a) (cd := cdv) (A := A) (outer := outer) (s := s) (H := H) (E := E)
    have pa0 := pa_of (P := P) (w := w) (K := K) (mg := mg) (base := base) (N := N_law) (qual := "law") (sc := defScope s_law) (f := a) (cd := cdv) (A := A) (outer := outer) (s := s) (H := H) (E := E)
    exact (xss_cons (xs_asgT (fun _ _ h1 h2 => ps_asg h1 h2) (xcallE C_law_shape B_law_shape (hr.mono (by decide)) tk0 (ae_cons (xv 0) (ae_cons xi ae_nil))) (xg_tup (fun _ h => pg_tup rfl h) rfl (xgs_cons (xg_name 1 (pg_name (i := 1) sc_law.nd rfl (by first | exact Or.inl rfl | exact Or.inr rfl))) (xgs_cons (xg_name 2 (pg_name (i := 2) sc_law.nd rfl (by first | exact Or.inl rfl | exact Or.inr rfl))) (xgs_cons (xg_name 3 (pg_name (i := 3) sc_law.nd rfl (by first | exact Or.inl rfl | exact Or.inr rfl))) xgs_nil)))))
  (xss_cons (xs_set (fun _ h => ps_set (i := 4) sc_law.nd rfl (by first | exact Or.inl rfl | exact Or.inr rfl) h) (XX.o_e (xcallO C_law_periods B_law_periods (hr.mono (by decide)) tk0 (ae_cons (xv 0) (ae_cons xi (ae_cons (xcallE C_law_grown B_law_grown (hr.mono (by decide)) tk0 (ae_cons (xv 0) (ae_cons (xadd (xv 2) (xv 3)) ae_nil))) (ae_cons (xv 1) ae_nil)))))))
  (xss_cons (xs_set (fun _ h => ps_set (i := 5) sc_law.nd rfl (by first | exact Or.inl rfl | exact Or.inr rfl) h) (xcallE C_law_period B_law_period (hr.mono (by decide)) tk0 (ae_cons (xcallE C_law_number B_law_number (hr.mono (by decide)) tk0 (ae_cons (xv 0) (ae_cons xi ae_nil))) (ae_cons (xv 1) ae_nil))))
  (xss_cons (xs_set (fun _ h => ps_set (i := 6) sc_law.nd rfl (by first | exact Or.inl rfl | exact Or.inr rfl) h) (xcallE C_law_number B_law_number (hr.mono (by decide)) tk0 (ae_cons (xv 0) (ae_cons xi ae_nil))))
  (xss_cons (xs_set (fun _ h => ps_set (i := 7) sc_law.nd rfl (by first | exact Or.inl rfl | exact Or.inr rfl) h) (XX.o_e (xlst (ae_cons xi (ae_cons xi (ae_cons (xadd xi (xmod (xint B.b_int (ab_cons (XX.e_b (xv 6)) ab_nil)) xi)) (ae_cons (xadd xi (xmod (xint B.b_int (ab_cons (XX.e_b (xdiv (xv 6) xi)) ab_nil)) (xpow (m := 10) (n := 40) ⟨by decide, by decide, by decide⟩))) ae_nil)))))))
  (xss_cons (xs_set (fun _ h => ps_set (i := 8) sc_law.nd rfl (by first | exact Or.inl rfl | exact Or.inr rfl) h) (xcallE C_law_due B_law_due (hr.mono (by decide)) tk0 (ae_cons (xv 4) (ae_cons (xv 7) ae_nil))))
  (xss_cons (xs_set (fun _ h => ps_set (i := 9) sc_law.nd rfl (by first | exact Or.inl rfl | exact Or.inr rfl) h) (xcallE C_law_due B_law_due (hr.mono (by decide)) tk0 (ae_cons (xadd (xv 4) (XX.o_e (xlst (ae_cons (xv 5) ae_nil)))) (ae_cons (xv 7) ae_nil))))
  (xss_cons (xs_set (fun _ h => ps_set (i := 10) sc_law.nd rfl (by first | exact Or.inl rfl | exact Or.inr rfl) h) (xcallE C_law_least B_law_least (hr.mono (by decide)) tk0 (ae_cons (xv 4) (ae_cons xi ae_nil))))
  (xss_cons (xs_setO (fun _ h => ps_set (i := 11) sc_law.nd rfl (by first | exact Or.inl rfl | exact Or.inr rfl) h) (xlist B.b_list (XX.e_s (xv 4))))
  (xss_cons (xs_asgF (fun _ h => ps_set (i := 12) sc_law.nd rfl (by first | exact Or.inl rfl | exact Or.inr rfl) h) (xm_make O_Profile.madeJ C_Profile_initJ rfl O_Profile.gm B_Profile_initJ (hr.mono (by decide)) tk0 (ia_io 11 (.r .g) (pv 11) ia_nil)))
  (xss_cons (xs_if (XW.pt (wor (tnot (tval (XX.e_b (xcallE C_law_is B_law_is (hr.mono (by decide)) tk0 (ae_cons (xv 12) (ae_cons (xv 4) (ae_cons (xv 7) (ae_cons (xv 8) ae_nil)))))))) (wor1 (tnot (tval (XX.e_b (xcallE C_law_then B_law_then (hr.mono (by decide)) tk0 (ae_cons (xv 12) (ae_cons (xv 5) (ae_cons (xv 9) ae_nil))))))))))
  (xss_one (xs_ret xbl))
  xss_nil)
  (xss_cons (xs_dropM (fun _ h => ps_expr h) (xm_call C_law_change.1 C_law_change.2.1 C_law_change.2.2 B_law_change (hr.mono (by decide)) tk0 (ia_io 11 (.r .g) (pv 11) (ia_e (xv 5) (ia_e (xcallE C_law_number B_law_number (hr.mono (by decide)) tk0 (ae_cons (xv 0) (ae_cons xi ae_nil))) ia_nil)))))
  (xss_cons (xs_set (fun _ h => ps_set (i := 13) sc_law.nd rfl (by first | exact Or.inl rfl | exact Or.inr rfl) h) (XX.o_e (xlist B.b_list (xb 11))))
  (xss_cons (xs_set (fun _ h => ps_set (i := 14) sc_law.nd rfl (by first | exact Or.inl rfl | exact Or.inr rfl) h) (xcallE C_law_due B_law_due (hr.mono (by decide)) tk0 (ae_cons (xv 13) (ae_cons (xv 7) ae_nil))))
  (xss_cons (xs_setO (fun _ h => ps_set (i := 15) sc_law.nd rfl (by first | exact Or.inl rfl | exact Or.inr rfl) h) (xlistOG rfl O_Profile.cl rfl O_Profile.it C_Profile_iter B_Profile_iter (hr.mono (by decide)) B.b_list (xv 12)))
  (xss_cons (xs_clear (i := 15) (ps_expr (pe_bm0 PySem.F.plainAttrs_list PySem.F.slot_list_clear PySem.F.type_list_clear mt_clear (pv 15))))
  (xss_cons (xs_if (XW.pt (wor (tnot (tval (XX.e_b (xcallE C_law_is B_law_is (hr.mono (by decide)) tk0 (ae_cons (xv 12) (ae_cons (xv 4) (ae_cons (xv 7) (ae_cons (xv 8) ae_nil)))))))) (wor1 (tnot (tval (XX.e_b (xcallE C_law_then B_law_then (hr.mono (by decide)) tk0 (ae_cons (xv 12) (ae_cons (xv 5) (ae_cons (xv 9) ae_nil))))))))))
  (xss_one (xs_ret xbl))
  xss_nil)
  (xss_cons (xs_asgF (fun _ h => ps_set (i := 16) sc_law.nd rfl (by first | exact Or.inl rfl | exact Or.inr rfl) h) (xm_make O_Profile.madeJ C_Profile_initJ rfl O_Profile.gm B_Profile_initJ (hr.mono (by decide)) tk0 (ia_io 11 (.r .g) (pv 11) ia_nil)))
  (xss_cons (xs_if (tnot (tval (xcallB C_law_same B_law_same (hr.mono (by decide)) tk0 (ab_cons (XX.s_b (xb 11)) (ab_cons (XX.e_b (xv 13)) ab_nil)))))
  (xss_one (xs_ret xbl))
  xss_nil)
  (xss_cons (xs_clear (i := 11) (ps_expr (pe_bm0 PySem.F.plainAttrs_list PySem.F.slot_list_clear PySem.F.type_list_clear mt_clear (pv 11))))
  (xss_cons (xs_for (fun _ _ _ hi hg hb => ps_for pa0 rfl hi hg hb) (xi_range1 (fun _ h => pi_range1 rfl B.b_range h) (ab_cons (XX.e_b xi) ab_nil)) (xg_name 17 (pg_name (i := 17) sc_law.nd rfl (by first | exact Or.inl rfl | exact Or.inr rfl)))
  (xss_cons (xs_if (tnot (tval (XX.e_b (xcallE C_law_is B_law_is (hr.mono (by decide)) tk0 (ae_cons (xv 16) (ae_cons (xv 13) (ae_cons (xv 7) (ae_cons (xv 14) ae_nil))))))))
  (xss_one (xs_ret xbl))
  xss_nil)
  (xss_cons (xs_if (tnot (tval (XX.e_b (xcallE C_law_same B_law_same (hr.mono (by decide)) tk0 (ae_cons (XX.o_e (xlst (ae_cons (xcallOG O_Profile.cl O_Profile.co C_Profile_call B_Profile_call (hr.mono (by decide)) tk0 (fun ds h => runB_len ds h) (xv 12) (ae_cons xi ae_nil)) (ae_cons (xcallOG O_Profile.cl O_Profile.co C_Profile_call B_Profile_call (hr.mono (by decide)) tk0 (fun ds h => runB_len ds h) (xv 12) (ae_cons xi ae_nil)) ae_nil)))) (ae_cons (XX.o_e (xlst (ae_cons (xv 10) (ae_cons (xix (XX.e_s (xv 8)) xi) ae_nil)))) ae_nil))))))
  (xss_one (xs_ret xbl))
  xss_nil)
  (xss_one (xs_if (XW.pt (wor (tnot (tval (XX.e_b (xcallE C_law_is B_law_is (hr.mono (by decide)) tk0 (ae_cons (xv 12) (ae_cons (xv 4) (ae_cons (xv 7) (ae_cons (xv 8) ae_nil)))))))) (wor1 (tnot (tval (XX.e_b (xcallE C_law_then B_law_then (hr.mono (by decide)) tk0 (ae_cons (xv 12) (ae_cons (xv 5) (ae_cons (xv 9) ae_nil))))))))))
  (xss_one (xs_ret xbl))
  xss_nil)))))
  (xss_one (xs_ret xbl)))))))))))))))))))))))
abbrev s_Profile_init : Stmt := clsS 17 0
abbrev N_Profile_init : List Str := ["self", "periods"]
theorem sc_Profile_init : FnScope N_Profile_init ["self", "periods"] (defScope s_Profile_init) := ⟨rfl, rfl, rfl, by decide +kernel, rfl, by decide +kernel, by decide +kernel⟩
theorem ok_Profile_init {P : Program} {w : World} {K : PySem.W.Frag} {mg : Str → Option Value} {base : Heap} {ca : Nat → Addr} {a : Addr} {fd : FuncData} (F : Fun K "__init__" "Profile.__init__" s_Profile_init a fd) (B : Bl mg) (T : Tx P K mg ca) {pC : Addr}
    {a_Profile_init a_Profile_initJ a_Profile_call a_Profile_iter a_Profile_then : Addr} (O_Profile : Ox_Profile K mg pC a_Profile_init a_Profile_initJ a_Profile_call a_Profile_iter a_Profile_then)
    {a_check_periods : Addr} {fd_check_periods : FuncData} (C_check_periods : Df P w K mg base ca cfG 1 "check_periods" a_check_periods fd_check_periods ["periods", "cap"] .e f_check_periods)
    (D_check_periods : BindD K fd_check_periods ["periods", "cap"] .none)
    {a_least_cost : Addr} {fd_least_cost : FuncData} (C_least_cost : Df P w K mg base ca cfG 3 "least_cost" a_least_cost fd_least_cost ["periods", "ending"] .e f_least_cost)
    (D_least_cost : BindD K fd_least_cost ["periods", "ending"] (.int 0))
    {a_profile_pieces : Addr} {fd_profile_pieces : FuncData} (C_profile_pieces : Df P w K mg base ca cfG 4 "profile_pieces" a_profile_pieces fd_profile_pieces ["periods"] .e f_profile_pieces)
    (B_profile_pieces : Binds K fd_profile_pieces ["periods"] []) : FnOk P w K mg base (L2.CX P w) 5 a fd ["self", "periods"] (SpI ca cfG .g [some (.r .g), none] (f_Profile_init pC)) :=
  fn_bodyI F sc_Profile_init rfl fun vs cdv A outer s H E hr => by
    have hu := hr.units
    have tk0 := tk_of (P := P) (w := w) (K := K) (mg := mg) (base := base) (N := N_Profile_init) (qual := "Profile.__init__") (sc := defScope s_Profile_init) (f := a) (cd := cdv) (A := A) (outer := outer) (s := s) (H := H) (E := E)
    have pa0 := pa_of (P := P) (w := w) (K := K) (mg := mg) (base := base) (N := N_Profile_init) (qual := "Profile.__init__") (sc := defScope s_Profile_init) (f := a) (cd := cdv) (A := A) (outer := outer) (s := s) (H := H) (E := E)
    exact (xss_cons (xs_drop (fun _ h => ps_expr h) (XX.e_b (xcallDE C_check_periods D_check_periods (hr.mono (by decide)) tk0 (ae_cons (xv 1) ae_nil))))
  (xss_cons (xs_fldNew (s := .g) O_Profile.cl.cl (O_Profile.cl.na "periods" (by decide +kernel)) (by decide +kernel) (by decide) (pv 0) (XX.e_w (XX.o_e (xlist B.b_list (XX.e_s (xv 1))))))
  (xss_cons (xs_fldNew (s := .g) O_Profile.cl.cl (O_Profile.cl.na "size" (by decide +kernel)) (by decide +kernel) (by decide) (pv 0) (XX.e_w (xlen B.b_len (ab_cons (XX.e_b (xv 1)) ab_nil))))
  (xss_cons (xs_fldNew (s := .g) O_Profile.cl.cl (O_Profile.cl.na "floor" (by decide +kernel)) (by decide +kernel) (by decide) (pv 0) (XX.e_w (xcallDE C_least_cost D_least_cost (hr.mono (by decide)) tk0 (ae_cons (xv 1) ae_nil))))
  (xss_one (xs_fldNew (s := .g) O_Profile.cl.cl (O_Profile.cl.na "pieces" (by decide +kernel)) (by decide +kernel) (by decide) (pv 0) (XX.e_w (xcallE C_profile_pieces B_profile_pieces (hr.mono (by decide)) tk0 (ae_cons (xv 1) ae_nil)))))))))
abbrev s_Profile_initJ : Stmt := clsS 17 0
abbrev N_Profile_initJ : List Str := ["self", "periods"]
theorem sc_Profile_initJ : FnScope N_Profile_initJ ["self", "periods"] (defScope s_Profile_initJ) := ⟨rfl, rfl, rfl, by decide +kernel, rfl, by decide +kernel, by decide +kernel⟩
theorem ok_Profile_initJ {P : Program} {w : World} {K : PySem.W.Frag} {mg : Str → Option Value} {base : Heap} {ca : Nat → Addr} {a : Addr} {fd : FuncData} (F : Fun K "__init__" "Profile.__init__" s_Profile_initJ a fd) (B : Bl mg) (T : Tx P K mg ca) {pC : Addr}
    {a_Profile_init a_Profile_initJ a_Profile_call a_Profile_iter a_Profile_then : Addr} (O_Profile : Ox_Profile K mg pC a_Profile_init a_Profile_initJ a_Profile_call a_Profile_iter a_Profile_then)
    {a_check_periods : Addr} {fd_check_periods : FuncData} (C_check_periods : Df P w K mg base ca cfG 1 "check_periods" a_check_periods fd_check_periods ["periods", "cap"] .e f_check_periods)
    (D_check_periods : BindD K fd_check_periods ["periods", "cap"] .none)
    {a_least_cost : Addr} {fd_least_cost : FuncData} (C_least_cost : Df P w K mg base ca cfG 3 "least_cost" a_least_cost fd_least_cost ["periods", "ending"] .e f_least_cost)
    (D_least_cost : BindD K fd_least_cost ["periods", "ending"] (.int 0))
    {a_profile_pieces__o : Addr} {fd_profile_pieces__o : FuncData} (C_profile_pieces__o : Df P w K mg base ca cfG 4 "profile_pieces" a_profile_pieces__o fd_profile_pieces__o ["periods"] .o f_profile_pieces__o_k22)
    (B_profile_pieces__o : Binds K fd_profile_pieces__o ["periods"] []) : FnOk P w K mg base (L2.CX P w) 5 a fd ["self", "periods"] (SpI ca cfG (.g) ms_Profile_initJ (f_Profile_initJ pC)) :=
  fn_bodyJ F sc_Profile_initJ rfl (fun vs hl cdv A outer s H E hr => by
    have hu := hr.units
    have tk0 := tk_of (P := P) (w := w) (K := K) (mg := mg) (base := base) (N := N_Profile_initJ) (qual := "Profile.__init__") (sc := defScope s_Profile_initJ) (f := a) (cd := cdv) (A := A) (outer := outer) (s := s) (H := H) (E := E)
    have pa0 := pa_of (P := P) (w := w) (K := K) (mg := mg) (base := base) (N := N_Profile_initJ) (qual := "Profile.__init__") (sc := defScope s_Profile_initJ) (f := a) (cd := cdv) (A := A) (outer := outer) (s := s) (H := H) (E := E)
    exact (xss_cons (xs_drop (fun _ h => ps_expr h) (xcallDB C_check_periods D_check_periods (hr.mono (by decide)) tk0 (ab_cons (XX.s_b (xb 1)) ab_nil)))
  (xss_cons (xs_fldNew (s := .g) O_Profile.cl.cl (O_Profile.cl.na "periods" (by decide +kernel)) (by decide +kernel) (by decide) (pv 0) (XX.e_w (XX.o_e (xlist B.b_list (xb 1)))))
  (xss_cons (xs_fldNew (s := .g) O_Profile.cl.cl (O_Profile.cl.na "size" (by decide +kernel)) (by decide +kernel) (by decide) (pv 0) (XX.e_w (xlen B.b_len (ab_cons (XX.s_b (xb 1)) ab_nil))))
  (xss_cons (xs_fldNew (s := .g) O_Profile.cl.cl (O_Profile.cl.na "floor" (by decide +kernel)) (by decide +kernel) (by decide) (pv 0) (XX.e_w (xx_sc (xcallDB C_least_cost D_least_cost (hr.mono (by decide)) tk0 (ab_cons (XX.s_b (xb 1)) ab_nil)))))
  (xss_one (xs_fldNew (s := .g) O_Profile.cl.cl (O_Profile.cl.na "pieces" (by decide +kernel)) (by decide +kernel) (by decide) (pv 0) (XX.e_w (XX.o_e (xcallNX (i := 1) C_profile_pieces__o B_profile_pieces__o (hr.mono (by decide)) tk0 (ai_own rfl ai_nil)))))))))))
abbrev s_Profile_call : Stmt := clsS 17 1
abbrev N_Profile_call : List Str := ["self", "ending", "start", "low", "high", "base", "rate"]
theorem sc_Profile_call : FnScope N_Profile_call ["self", "ending"] (defScope s_Profile_call) := ⟨rfl, rfl, rfl, by decide +kernel, rfl, by decide +kernel, by decide +kernel⟩
theorem ok_Profile_call {P : Program} {w : World} {K : PySem.W.Frag} {mg : Str → Option Value} {base : Heap} {ca : Nat → Addr} {a : Addr} {fd : FuncData} (F : Fun K "__call__" "Profile.__call__" s_Profile_call a fd) (B : Bl mg) (T : Tx P K mg ca) {pC : Addr}
    {a_Profile_init a_Profile_initJ a_Profile_call a_Profile_iter a_Profile_then : Addr} (O_Profile : Ox_Profile K mg pC a_Profile_init a_Profile_initJ a_Profile_call a_Profile_iter a_Profile_then) : FnOk P w K mg base (L2.CX P w) 1 a fd ["self", "ending"] (SpF ca cfG .e 2 (f_Profile_call pC)) :=
  fn_body F sc_Profile_call fun cdv A outer s H E hr => by
    have hu := hr.units
    have tk0 := tk_of (P := P) (w := w) (K := K) (mg := mg) (base := base) (N := N_Profile_call) (qual := "Profile.__call__") (sc := defScope s_Profile_call) (f := a) (cd := cdv) (A := A) (outer := outer) (s := s) (H := H) (E := E)
    have pa0 := pa_of (P := P) (w := w) (K := K) (mg := mg) (base := base) (N := N_Profile_call) (qual := "Profile.__call__") (sc := defScope s_Profile_call) (f := a) (cd := cdv) (A := A) (outer := outer) (s := s) (H := H) (E := E)
    exact (xss_cons (xs_if (tlt (xv 1) xi)
  (xss_one (xs_raise0 rfl tk0 T.q_InvalidEnding T.gm_InvalidEnding T.kp_InvalidEnding (raises_own T.sb_InvalidEnding T.ty_InvalidEnding) rfl))
  xss_nil)
  (xss_cons (xs_if (teq hu (XX.e_b (xv 1)) (XX.e_b xi))
  (xss_one (xs_ret (xfldG O_Profile.cl rfl (xv 0))))
  xss_nil)
  (xss_cons (xs_if (teq hu (XX.e_b (xfldG O_Profile.cl rfl (xv 0))) (XX.e_b xi))
  (xss_one (xs_raise0 rfl tk0 T.q_NoPeriods T.gm_NoPeriods T.kp_NoPeriods (raises_own T.sb_NoPeriods T.ty_NoPeriods) rfl))
  xss_nil)
  (xss_one (xs_ret (xmin rfl B.b_min (ab_cons (XX.e_b (XX.o_e (xcomp (is := [2, 3, 4, 5, 6]) (vs := [2, 3, 4, 5, 6]) (by decide) (fun _ hi => pe_lc (own := [("start", 2), ("low", 3), ("high", 4), ("base", 5), ("rate", 6)]) rfl sc_Profile_call.nd hi (blkOk_by (own := [("start", 2), ("low", 3), ("high", 4), ("base", 5), ("rate", 6)]) (N := N_Profile_call) (sc := defScope s_Profile_call) (by decide +kernel)) (fun _ _ _ _ _ => pg_u (xg_tup (fun _ h => pg_tup rfl h) rfl (xgs_cons (xg_name 2 (pg_name (i := 2) sc_Profile_call.nd rfl (by first | exact Or.inl rfl | exact Or.inr rfl))) (xgs_cons (xg_name 3 (pg_name (i := 3) sc_Profile_call.nd rfl (by first | exact Or.inl rfl | exact Or.inr rfl))) (xgs_cons (xg_name 4 (pg_name (i := 4) sc_Profile_call.nd rfl (by first | exact Or.inl rfl | exact Or.inr rfl))) (xgs_cons (xg_name 5 (pg_name (i := 5) sc_Profile_call.nd rfl (by first | exact Or.inl rfl | exact Or.inr rfl))) (xgs_cons (xg_name 6 (pg_name (i := 6) sc_Profile_call.nd rfl (by first | exact Or.inl rfl | exact Or.inr rfl))) xgs_nil))))))) (fun _ _ _ _ _ => pts_u xts_nil) (fun _ _ _ _ _ => pe_u (xadd (xv 5) (xmul (xv 6) (xv 1))))) (xi_list (xfldG O_Profile.cl rfl (xv 0)))))) ab_nil)))))))
abbrev s_Profile_iter : Stmt := clsS 17 2
abbrev N_Profile_iter : List Str := ["self"]
theorem sc_Profile_iter : FnScope N_Profile_iter ["self"] (defScope s_Profile_iter) := ⟨rfl, rfl, rfl, by decide +kernel, rfl, by decide +kernel, by decide +kernel⟩
theorem ok_Profile_iter {P : Program} {w : World} {K : PySem.W.Frag} {mg : Str → Option Value} {base : Heap} {ca : Nat → Addr} {a : Addr} {fd : FuncData} (F : Fun K "__iter__" "Profile.__iter__" s_Profile_iter a fd) (B : Bl mg) (T : Tx P K mg ca) {pC : Addr} {a_Profile_init a_Profile_initJ a_Profile_call a_Profile_iter a_Profile_then : Addr} (O_Profile : Ox_Profile K mg pC a_Profile_init a_Profile_initJ a_Profile_call a_Profile_iter a_Profile_then) : FnOk P w K mg base (L2.CX P w) 1 a fd ["self"] (spIt pC "pieces") := fn_iter F sc_Profile_iter rfl O_Profile.cl.cl (O_Profile.cl.na "pieces" (by decide +kernel)) B.b_iter rfl (fun _ _ _ _ _ _ => rfl)
abbrev s_Profile_then : Stmt := clsS 17 3
abbrev N_Profile_then : List Str := ["self", "period"]
theorem sc_Profile_then : FnScope N_Profile_then ["self", "period"] (defScope s_Profile_then) := ⟨rfl, rfl, rfl, by decide +kernel, rfl, by decide +kernel, by decide +kernel⟩
theorem ok_Profile_then {P : Program} {w : World} {K : PySem.W.Frag} {mg : Str → Option Value} {base : Heap} {ca : Nat → Addr} {a : Addr} {fd : FuncData} (F : Fun K "then" "Profile.then" s_Profile_then a fd) (B : Bl mg) (T : Tx P K mg ca) {pC : Addr}
    {a_Profile_init a_Profile_initJ a_Profile_call a_Profile_iter a_Profile_then : Addr} (O_Profile : Ox_Profile K mg pC a_Profile_init a_Profile_initJ a_Profile_call a_Profile_iter a_Profile_then)
    {fd_Profile_init : FuncData}
    (C_Profile_init : FnOk P w K mg base (L2.CX P w) 5 a_Profile_init fd_Profile_init ["self", "periods"] (SpI ca cfG .g [some (.r .g), none] (f_Profile_init pC)))
    (B_Profile_init : Binds K fd_Profile_init ["self", "periods"] []) : FnOk P w K mg base (L2.CX P w) 7 a fd ["self", "period"] (SpF ca cfG .e 2 (f_Profile_then pC)) :=
  fn_body F sc_Profile_then fun cdv A outer s H E hr => by
    have hu := hr.units
    have tk0 := tk_of (P := P) (w := w) (K := K) (mg := mg) (base := base) (N := N_Profile_then) (qual := "Profile.then") (sc := defScope s_Profile_then) (f := a) (cd := cdv) (A := A) (outer := outer) (s := s) (H := H) (E := E)
    have pa0 := pa_of (P := P) (w := w) (K := K) (mg := mg) (base := base) (N := N_Profile_then) (qual := "Profile.then") (sc := defScope s_Profile_then) (f := a) (cd := cdv) (A := A) (outer := outer) (s := s) (H := H) (E := E)
    exact (xss_one (xs_ret (XX.w_e rfl (xmake (n := 1) O_Profile.made C_Profile_init rfl O_Profile.gm B_Profile_init (hr.mono (by decide)) tk0 runI_ne (ae_cons (xadd (xfldG O_Profile.cl rfl (xv 0)) (XX.o_e (xlst (ae_cons (xv 1) ae_nil)))) ae_nil)))))
end Lw

namespace Lw
open PySem PySem.Spec PyProof.Rows L2 Ct
theorem all_mk {P : Program} {w : World} {K : PySem.W.Frag} {h : Heap} {mg : Str → Option Value} {fa : Addr} (X : K.In h) (G : h.Ns mainGlobals mg) (hfa : mg "law" = some (.ref fa)) (nl : NoLst K)
    {e_InvalidPeriod : Addr}
    {e_SetupAboveCap : Addr}
    {e_NoPeriods : Addr}
    {e_InvalidEnding : Addr}
    {pC : Addr}
    {a_check_periods : Addr} {oc_check_periods dc_check_periods pm_check_periods cd_check_periods ct_check_periods : Value} {od_check_periods an_check_periods : Option Addr} {sl_check_periods : Array (Option Value)}
    {kd_check_periods : Addr}
    {a_last_costs : Addr} {oc_last_costs dc_last_costs pm_last_costs cd_last_costs ct_last_costs kV_last_costs : Value} {od_last_costs an_last_costs : Option Addr} {sl_last_costs : Array (Option Value)}
    {a_least_costs : Addr} {oc_least_costs dc_least_costs pm_least_costs cd_least_costs ct_least_costs kV_least_costs : Value} {od_least_costs an_least_costs : Option Addr} {sl_least_costs : Array (Option Value)}
    {a_check_ending : Addr} {oc_check_ending dc_check_ending pm_check_ending cd_check_ending ct_check_ending kV_check_ending : Value} {od_check_ending an_check_ending : Option Addr} {sl_check_ending : Array (Option Value)}
    {a_least_cost : Addr} {oc_least_cost dc_least_cost pm_least_cost cd_least_cost ct_least_cost : Value} {od_least_cost an_least_cost : Option Addr} {sl_least_cost : Array (Option Value)}
    {kd_least_cost : Addr}
    {td_least_cost : Tok}
    {a_cost_lines : Addr} {oc_cost_lines dc_cost_lines pm_cost_lines cd_cost_lines ct_cost_lines kV_cost_lines : Value} {od_cost_lines an_cost_lines : Option Addr} {sl_cost_lines : Array (Option Value)}
    {a_best_ranges : Addr} {oc_best_ranges dc_best_ranges pm_best_ranges cd_best_ranges ct_best_ranges kV_best_ranges : Value} {od_best_ranges an_best_ranges : Option Addr} {sl_best_ranges : Array (Option Value)}
    {a_profile_pieces : Addr} {oc_profile_pieces dc_profile_pieces pm_profile_pieces cd_profile_pieces ct_profile_pieces kV_profile_pieces : Value} {od_profile_pieces an_profile_pieces : Option Addr} {sl_profile_pieces : Array (Option Value)}
    {a_profile_pieces__o : Addr} {oc_profile_pieces__o dc_profile_pieces__o pm_profile_pieces__o cd_profile_pieces__o ct_profile_pieces__o kV_profile_pieces__o : Value} {od_profile_pieces__o an_profile_pieces__o : Option Addr} {sl_profile_pieces__o : Array (Option Value)}
    {a_law_cell : Addr} {oc_law_cell dc_law_cell pm_law_cell cd_law_cell ct_law_cell kV_law_cell : Value} {od_law_cell an_law_cell : Option Addr} {sl_law_cell : Array (Option Value)}
    {a_law_number : Addr} {oc_law_number dc_law_number pm_law_number cd_law_number ct_law_number kV_law_number : Value} {od_law_number an_law_number : Option Addr} {sl_law_number : Array (Option Value)}
    {a_law_period : Addr} {oc_law_period dc_law_period pm_law_period cd_law_period ct_law_period kV_law_period : Value} {od_law_period an_law_period : Option Addr} {sl_law_period : Array (Option Value)}
    {a_law_periods : Addr} {oc_law_periods dc_law_periods pm_law_periods cd_law_periods ct_law_periods kV_law_periods : Value} {od_law_periods an_law_periods : Option Addr} {sl_law_periods : Array (Option Value)}
    {a_law_shape : Addr} {oc_law_shape dc_law_shape pm_law_shape cd_law_shape ct_law_shape kV_law_shape : Value} {od_law_shape an_law_shape : Option Addr} {sl_law_shape : Array (Option Value)}
    {a_law_grown : Addr} {oc_law_grown dc_law_grown pm_law_grown cd_law_grown ct_law_grown kV_law_grown : Value} {od_law_grown an_law_grown : Option Addr} {sl_law_grown : Array (Option Value)}
    {a_law_costs : Addr} {oc_law_costs dc_law_costs pm_law_costs cd_law_costs ct_law_costs kV_law_costs : Value} {od_law_costs an_law_costs : Option Addr} {sl_law_costs : Array (Option Value)}
    {a_law_high : Addr} {oc_law_high dc_law_high pm_law_high cd_law_high ct_law_high kV_law_high : Value} {od_law_high an_law_high : Option Addr} {sl_law_high : Array (Option Value)}
    {a_law_least : Addr} {oc_law_least dc_law_least pm_law_least cd_law_least ct_law_least kV_law_least : Value} {od_law_least an_law_least : Option Addr} {sl_law_least : Array (Option Value)}
    {a_law_same : Addr} {oc_law_same dc_law_same pm_law_same cd_law_same ct_law_same kV_law_same : Value} {od_law_same an_law_same : Option Addr} {sl_law_same : Array (Option Value)}
    {a_law_lines : Addr} {oc_law_lines dc_law_lines pm_law_lines cd_law_lines ct_law_lines kV_law_lines : Value} {od_law_lines an_law_lines : Option Addr} {sl_law_lines : Array (Option Value)}
    {a_law_pieces : Addr} {oc_law_pieces dc_law_pieces pm_law_pieces cd_law_pieces ct_law_pieces kV_law_pieces : Value} {od_law_pieces an_law_pieces : Option Addr} {sl_law_pieces : Array (Option Value)}
    {a_law_asked : Addr} {oc_law_asked dc_law_asked pm_law_asked cd_law_asked ct_law_asked kV_law_asked : Value} {od_law_asked an_law_asked : Option Addr} {sl_law_asked : Array (Option Value)}
    {a_law_due : Addr} {oc_law_due dc_law_due pm_law_due cd_law_due ct_law_due kV_law_due : Value} {od_law_due an_law_due : Option Addr} {sl_law_due : Array (Option Value)}
    {a_law_is : Addr} {oc_law_is dc_law_is pm_law_is cd_law_is ct_law_is kV_law_is : Value} {od_law_is an_law_is : Option Addr} {sl_law_is : Array (Option Value)}
    {a_law_then : Addr} {oc_law_then dc_law_then pm_law_then cd_law_then ct_law_then kV_law_then : Value} {od_law_then an_law_then : Option Addr} {sl_law_then : Array (Option Value)}
    {a_law_change : Addr} {oc_law_change dc_law_change pm_law_change cd_law_change ct_law_change kV_law_change : Value} {od_law_change an_law_change : Option Addr} {sl_law_change : Array (Option Value)}
    {a_law : Addr} {oc_law dc_law pm_law cd_law ct_law kV_law : Value} {od_law an_law : Option Addr} {sl_law : Array (Option Value)}
    {a_Profile_init : Addr} {oc_Profile_init dc_Profile_init pm_Profile_init cd_Profile_init ct_Profile_init kV_Profile_init : Value} {od_Profile_init an_Profile_init : Option Addr} {sl_Profile_init : Array (Option Value)}
    {a_Profile_initJ : Addr} {oc_Profile_initJ dc_Profile_initJ pm_Profile_initJ cd_Profile_initJ ct_Profile_initJ kV_Profile_initJ : Value} {od_Profile_initJ an_Profile_initJ : Option Addr} {sl_Profile_initJ : Array (Option Value)}
    {a_Profile_call : Addr} {oc_Profile_call dc_Profile_call pm_Profile_call cd_Profile_call ct_Profile_call kV_Profile_call : Value} {od_Profile_call an_Profile_call : Option Addr} {sl_Profile_call : Array (Option Value)}
    {a_Profile_iter : Addr} {oc_Profile_iter dc_Profile_iter pm_Profile_iter cd_Profile_iter ct_Profile_iter kV_Profile_iter : Value} {od_Profile_iter an_Profile_iter : Option Addr} {sl_Profile_iter : Array (Option Value)}
    {a_Profile_then : Addr} {oc_Profile_then dc_Profile_then pm_Profile_then cd_Profile_then ct_Profile_then kV_Profile_then : Value} {od_Profile_then an_Profile_then : Option Addr} {sl_Profile_then : Array (Option Value)}
    (z_abs : PySem.W.nsIn K mainGlobals "abs" = some none)
    (z_bool : PySem.W.nsIn K mainGlobals "bool" = some none)
    (z_enumerate : PySem.W.nsIn K mainGlobals "enumerate" = some none)
    (z_int : PySem.W.nsIn K mainGlobals "int" = some none)
    (z_isinstance : PySem.W.nsIn K mainGlobals "isinstance" = some none)
    (z_iter : PySem.W.nsIn K mainGlobals "iter" = some none)
    (z_len : PySem.W.nsIn K mainGlobals "len" = some none)
    (z_list : PySem.W.nsIn K mainGlobals "list" = some none)
    (z_max : PySem.W.nsIn K mainGlobals "max" = some none)
    (z_min : PySem.W.nsIn K mainGlobals "min" = some none)
    (z_range : PySem.W.nsIn K mainGlobals "range" = some none)
    (z_reversed : PySem.W.nsIn K mainGlobals "reversed" = some none)
    (z_sum : PySem.W.nsIn K mainGlobals "sum" = some none)
    (z_tuple : PySem.W.nsIn K mainGlobals "tuple" = some none)
    (ns_InvalidPeriod : PySem.W.nsIn K mainGlobals "InvalidPeriod" = some (some (.ref e_InvalidPeriod)))
    (ns_SetupAboveCap : PySem.W.nsIn K mainGlobals "SetupAboveCap" = some (some (.ref e_SetupAboveCap)))
    (ns_NoPeriods : PySem.W.nsIn K mainGlobals "NoPeriods" = some (some (.ref e_NoPeriods)))
    (ns_InvalidEnding : PySem.W.nsIn K mainGlobals "InvalidEnding" = some (some (.ref e_InvalidEnding)))
    (x_InvalidPeriod : ExF P K mg e_InvalidPeriod "InvalidPeriod" ["index"])
    (x_SetupAboveCap : ExF P K mg e_SetupAboveCap "SetupAboveCap" ["index"])
    (q_NoPeriods : PySem.W.excIn K e_NoPeriods [.type "ValueError", .type "Exception", .type "BaseException", .type "object"] "ValueError.__new__" = true)
    (kp_NoPeriods : PySem.W.keepIn K (.ref e_NoPeriods) = true)
    (sb_NoPeriods : PySem.W.subIn K (.ref e_NoPeriods) (.type "BaseException") = some true)
    (ty_NoPeriods : PySem.W.typeIn K (.ref e_NoPeriods) = some (.type "type"))
    (q_InvalidEnding : PySem.W.excIn K e_InvalidEnding [.type "ValueError", .type "Exception", .type "BaseException", .type "object"] "ValueError.__new__" = true)
    (kp_InvalidEnding : PySem.W.keepIn K (.ref e_InvalidEnding) = true)
    (sb_InvalidEnding : PySem.W.subIn K (.ref e_InvalidEnding) (.type "BaseException") = some true)
    (ty_InvalidEnding : PySem.W.typeIn K (.ref e_InvalidEnding) = some (.type "type"))
    (nC : PySem.W.nsIn K mainGlobals "Profile" = some (some (.ref pC)))
    (cl1 : PySem.W.plainGet K pC Str.empty = true)
    (cl2 : PySem.W.hasDictIn K pC = true)
    (cl3 : PySem.W.plainOver K pC = true)
    (cl4 : PySem.W.findIn K (.ref pC) "__setattr__" = some (some (.builtin "object.__setattr__")))
    (na_periods : PySem.W.findIn K (.ref pC) "periods" = some none)
    (na_size : PySem.W.findIn K (.ref pC) "size" = some none)
    (na_floor : PySem.W.findIn K (.ref pC) "floor" = some none)
    (na_pieces : PySem.W.findIn K (.ref pC) "pieces" = some none)
    (mk1 : PySem.W.makesIn K pC = true)
    (mk4 : PySem.W.keepIn K (.ref pC) = true)
    (fi_Profile_init : PySem.W.findIn K (.ref pC) "__init__" = some (some (.ref a_Profile_init)))
    (fn_Profile_init : PySem.W.isFn K (.ref a_Profile_init) = true)
    (fi_Profile_initJ : PySem.W.findIn K (.ref pC) "__init__" = some (some (.ref a_Profile_initJ)))
    (fn_Profile_initJ : PySem.W.isFn K (.ref a_Profile_initJ) = true)
    (fi_Profile_call : PySem.W.findIn K (.ref pC) "__call__" = some (some (.ref a_Profile_call)))
    (fn_Profile_call : PySem.W.isFn K (.ref a_Profile_call) = true)
    (fx_Profile_call : PySem.W.fnIn K a_Profile_call = true)
    (fi_Profile_iter : PySem.W.findIn K (.ref pC) "__iter__" = some (some (.ref a_Profile_iter)))
    (fn_Profile_iter : PySem.W.isFn K (.ref a_Profile_iter) = true)
    (nolen : PySem.W.findIn K (.ref pC) "__len__" = some none)
    (nohint : PySem.W.findIn K (.ref pC) "__length_hint__" = some none)
    (fi_Profile_then : PySem.W.findIn K (.ref pC) "then" = some (some (.ref a_Profile_then)))
    (fn_Profile_then : PySem.W.isFn K (.ref a_Profile_then) = true)
    (n_check_periods : PySem.W.nsIn K mainGlobals "check_periods" = some (some (.ref a_check_periods)))
    (l_check_periods : K.lookup a_check_periods = some ⟨oc_check_periods, od_check_periods, .func (PySem.W.fnOf "check_periods" "check_periods" (defArgs s_check_periods) (defBody s_check_periods) (defScope s_check_periods) .none (.ref kd_check_periods) dc_check_periods pm_check_periods an_check_periods cd_check_periods ct_check_periods), sl_check_periods⟩)
    (c_check_periods : PySem.W.codeIn K cd_check_periods "check_periods" = true)
    (k_check_periods : PySem.W.keepIn K (.ref a_check_periods) = true)
    (d_check_periods : PySem.W.nsIn K kd_check_periods "cap" = some (some .none))
    (n_last_costs : PySem.W.nsIn K mainGlobals "last_costs" = some (some (.ref a_last_costs)))
    (l_last_costs : K.lookup a_last_costs = some ⟨oc_last_costs, od_last_costs, .func (PySem.W.fnOf "last_costs" "last_costs" (defArgs s_last_costs) (defBody s_last_costs) (defScope s_last_costs) .none kV_last_costs dc_last_costs pm_last_costs an_last_costs cd_last_costs ct_last_costs), sl_last_costs⟩)
    (c_last_costs : PySem.W.codeIn K cd_last_costs "last_costs" = true)
    (k_last_costs : PySem.W.keepIn K (.ref a_last_costs) = true)
    (n_least_costs : PySem.W.nsIn K mainGlobals "least_costs" = some (some (.ref a_least_costs)))
    (l_least_costs : K.lookup a_least_costs = some ⟨oc_least_costs, od_least_costs, .func (PySem.W.fnOf "least_costs" "least_costs" (defArgs s_least_costs) (defBody s_least_costs) (defScope s_least_costs) .none kV_least_costs dc_least_costs pm_least_costs an_least_costs cd_least_costs ct_least_costs), sl_least_costs⟩)
    (c_least_costs : PySem.W.codeIn K cd_least_costs "least_costs" = true)
    (k_least_costs : PySem.W.keepIn K (.ref a_least_costs) = true)
    (n_check_ending : PySem.W.nsIn K mainGlobals "check_ending" = some (some (.ref a_check_ending)))
    (l_check_ending : K.lookup a_check_ending = some ⟨oc_check_ending, od_check_ending, .func (PySem.W.fnOf "check_ending" "check_ending" (defArgs s_check_ending) (defBody s_check_ending) (defScope s_check_ending) .none kV_check_ending dc_check_ending pm_check_ending an_check_ending cd_check_ending ct_check_ending), sl_check_ending⟩)
    (c_check_ending : PySem.W.codeIn K cd_check_ending "check_ending" = true)
    (k_check_ending : PySem.W.keepIn K (.ref a_check_ending) = true)
    (n_least_cost : PySem.W.nsIn K mainGlobals "least_cost" = some (some (.ref a_least_cost)))
    (l_least_cost : K.lookup a_least_cost = some ⟨oc_least_cost, od_least_cost, .func (PySem.W.fnOf "least_cost" "least_cost" (defArgs s_least_cost) (defBody s_least_cost) (defScope s_least_cost) .none (.ref kd_least_cost) dc_least_cost pm_least_cost an_least_cost cd_least_cost ct_least_cost), sl_least_cost⟩)
    (c_least_cost : PySem.W.codeIn K cd_least_cost "least_cost" = true)
    (k_least_cost : PySem.W.keepIn K (.ref a_least_cost) = true)
    (d_least_cost : PySem.W.nsIn K kd_least_cost "ending" = some (some (.int 0 td_least_cost)))
    (n_cost_lines : PySem.W.nsIn K mainGlobals "cost_lines" = some (some (.ref a_cost_lines)))
    (l_cost_lines : K.lookup a_cost_lines = some ⟨oc_cost_lines, od_cost_lines, .func (PySem.W.fnOf "cost_lines" "cost_lines" (defArgs s_cost_lines) (defBody s_cost_lines) (defScope s_cost_lines) .none kV_cost_lines dc_cost_lines pm_cost_lines an_cost_lines cd_cost_lines ct_cost_lines), sl_cost_lines⟩)
    (c_cost_lines : PySem.W.codeIn K cd_cost_lines "cost_lines" = true)
    (k_cost_lines : PySem.W.keepIn K (.ref a_cost_lines) = true)
    (n_best_ranges : PySem.W.nsIn K mainGlobals "best_ranges" = some (some (.ref a_best_ranges)))
    (l_best_ranges : K.lookup a_best_ranges = some ⟨oc_best_ranges, od_best_ranges, .func (PySem.W.fnOf "best_ranges" "best_ranges" (defArgs s_best_ranges) (defBody s_best_ranges) (defScope s_best_ranges) .none kV_best_ranges dc_best_ranges pm_best_ranges an_best_ranges cd_best_ranges ct_best_ranges), sl_best_ranges⟩)
    (c_best_ranges : PySem.W.codeIn K cd_best_ranges "best_ranges" = true)
    (k_best_ranges : PySem.W.keepIn K (.ref a_best_ranges) = true)
    (n_profile_pieces : PySem.W.nsIn K mainGlobals "profile_pieces" = some (some (.ref a_profile_pieces)))
    (l_profile_pieces : K.lookup a_profile_pieces = some ⟨oc_profile_pieces, od_profile_pieces, .func (PySem.W.fnOf "profile_pieces" "profile_pieces" (defArgs s_profile_pieces) (defBody s_profile_pieces) (defScope s_profile_pieces) .none kV_profile_pieces dc_profile_pieces pm_profile_pieces an_profile_pieces cd_profile_pieces ct_profile_pieces), sl_profile_pieces⟩)
    (c_profile_pieces : PySem.W.codeIn K cd_profile_pieces "profile_pieces" = true)
    (k_profile_pieces : PySem.W.keepIn K (.ref a_profile_pieces) = true)
    (n_profile_pieces__o : PySem.W.nsIn K mainGlobals "profile_pieces" = some (some (.ref a_profile_pieces__o)))
    (l_profile_pieces__o : K.lookup a_profile_pieces__o = some ⟨oc_profile_pieces__o, od_profile_pieces__o, .func (PySem.W.fnOf "profile_pieces" "profile_pieces" (defArgs s_profile_pieces__o) (defBody s_profile_pieces__o) (defScope s_profile_pieces__o) .none kV_profile_pieces__o dc_profile_pieces__o pm_profile_pieces__o an_profile_pieces__o cd_profile_pieces__o ct_profile_pieces__o), sl_profile_pieces__o⟩)
    (c_profile_pieces__o : PySem.W.codeIn K cd_profile_pieces__o "profile_pieces" = true)
    (k_profile_pieces__o : PySem.W.keepIn K (.ref a_profile_pieces__o) = true)
    (n_law_cell : PySem.W.nsIn K mainGlobals "_law_cell" = some (some (.ref a_law_cell)))
    (l_law_cell : K.lookup a_law_cell = some ⟨oc_law_cell, od_law_cell, .func (PySem.W.fnOf "_law_cell" "_law_cell" (defArgs s_law_cell) (defBody s_law_cell) (defScope s_law_cell) .none kV_law_cell dc_law_cell pm_law_cell an_law_cell cd_law_cell ct_law_cell), sl_law_cell⟩)
    (c_law_cell : PySem.W.codeIn K cd_law_cell "_law_cell" = true)
    (k_law_cell : PySem.W.keepIn K (.ref a_law_cell) = true)
    (n_law_number : PySem.W.nsIn K mainGlobals "_law_number" = some (some (.ref a_law_number)))
    (l_law_number : K.lookup a_law_number = some ⟨oc_law_number, od_law_number, .func (PySem.W.fnOf "_law_number" "_law_number" (defArgs s_law_number) (defBody s_law_number) (defScope s_law_number) .none kV_law_number dc_law_number pm_law_number an_law_number cd_law_number ct_law_number), sl_law_number⟩)
    (c_law_number : PySem.W.codeIn K cd_law_number "_law_number" = true)
    (k_law_number : PySem.W.keepIn K (.ref a_law_number) = true)
    (n_law_period : PySem.W.nsIn K mainGlobals "_law_period" = some (some (.ref a_law_period)))
    (l_law_period : K.lookup a_law_period = some ⟨oc_law_period, od_law_period, .func (PySem.W.fnOf "_law_period" "_law_period" (defArgs s_law_period) (defBody s_law_period) (defScope s_law_period) .none kV_law_period dc_law_period pm_law_period an_law_period cd_law_period ct_law_period), sl_law_period⟩)
    (c_law_period : PySem.W.codeIn K cd_law_period "_law_period" = true)
    (k_law_period : PySem.W.keepIn K (.ref a_law_period) = true)
    (n_law_periods : PySem.W.nsIn K mainGlobals "_law_periods" = some (some (.ref a_law_periods)))
    (l_law_periods : K.lookup a_law_periods = some ⟨oc_law_periods, od_law_periods, .func (PySem.W.fnOf "_law_periods" "_law_periods" (defArgs s_law_periods) (defBody s_law_periods) (defScope s_law_periods) .none kV_law_periods dc_law_periods pm_law_periods an_law_periods cd_law_periods ct_law_periods), sl_law_periods⟩)
    (c_law_periods : PySem.W.codeIn K cd_law_periods "_law_periods" = true)
    (k_law_periods : PySem.W.keepIn K (.ref a_law_periods) = true)
    (n_law_shape : PySem.W.nsIn K mainGlobals "_law_shape" = some (some (.ref a_law_shape)))
    (l_law_shape : K.lookup a_law_shape = some ⟨oc_law_shape, od_law_shape, .func (PySem.W.fnOf "_law_shape" "_law_shape" (defArgs s_law_shape) (defBody s_law_shape) (defScope s_law_shape) .none kV_law_shape dc_law_shape pm_law_shape an_law_shape cd_law_shape ct_law_shape), sl_law_shape⟩)
    (c_law_shape : PySem.W.codeIn K cd_law_shape "_law_shape" = true)
    (k_law_shape : PySem.W.keepIn K (.ref a_law_shape) = true)
    (n_law_grown : PySem.W.nsIn K mainGlobals "_law_grown" = some (some (.ref a_law_grown)))
    (l_law_grown : K.lookup a_law_grown = some ⟨oc_law_grown, od_law_grown, .func (PySem.W.fnOf "_law_grown" "_law_grown" (defArgs s_law_grown) (defBody s_law_grown) (defScope s_law_grown) .none kV_law_grown dc_law_grown pm_law_grown an_law_grown cd_law_grown ct_law_grown), sl_law_grown⟩)
    (c_law_grown : PySem.W.codeIn K cd_law_grown "_law_grown" = true)
    (k_law_grown : PySem.W.keepIn K (.ref a_law_grown) = true)
    (n_law_costs : PySem.W.nsIn K mainGlobals "_law_costs" = some (some (.ref a_law_costs)))
    (l_law_costs : K.lookup a_law_costs = some ⟨oc_law_costs, od_law_costs, .func (PySem.W.fnOf "_law_costs" "_law_costs" (defArgs s_law_costs) (defBody s_law_costs) (defScope s_law_costs) .none kV_law_costs dc_law_costs pm_law_costs an_law_costs cd_law_costs ct_law_costs), sl_law_costs⟩)
    (c_law_costs : PySem.W.codeIn K cd_law_costs "_law_costs" = true)
    (k_law_costs : PySem.W.keepIn K (.ref a_law_costs) = true)
    (n_law_high : PySem.W.nsIn K mainGlobals "_law_high" = some (some (.ref a_law_high)))
    (l_law_high : K.lookup a_law_high = some ⟨oc_law_high, od_law_high, .func (PySem.W.fnOf "_law_high" "_law_high" (defArgs s_law_high) (defBody s_law_high) (defScope s_law_high) .none kV_law_high dc_law_high pm_law_high an_law_high cd_law_high ct_law_high), sl_law_high⟩)
    (c_law_high : PySem.W.codeIn K cd_law_high "_law_high" = true)
    (k_law_high : PySem.W.keepIn K (.ref a_law_high) = true)
    (n_law_least : PySem.W.nsIn K mainGlobals "_law_least" = some (some (.ref a_law_least)))
    (l_law_least : K.lookup a_law_least = some ⟨oc_law_least, od_law_least, .func (PySem.W.fnOf "_law_least" "_law_least" (defArgs s_law_least) (defBody s_law_least) (defScope s_law_least) .none kV_law_least dc_law_least pm_law_least an_law_least cd_law_least ct_law_least), sl_law_least⟩)
    (c_law_least : PySem.W.codeIn K cd_law_least "_law_least" = true)
    (k_law_least : PySem.W.keepIn K (.ref a_law_least) = true)
    (n_law_same : PySem.W.nsIn K mainGlobals "_law_same" = some (some (.ref a_law_same)))
    (l_law_same : K.lookup a_law_same = some ⟨oc_law_same, od_law_same, .func (PySem.W.fnOf "_law_same" "_law_same" (defArgs s_law_same) (defBody s_law_same) (defScope s_law_same) .none kV_law_same dc_law_same pm_law_same an_law_same cd_law_same ct_law_same), sl_law_same⟩)
    (c_law_same : PySem.W.codeIn K cd_law_same "_law_same" = true)
    (k_law_same : PySem.W.keepIn K (.ref a_law_same) = true)
    (n_law_lines : PySem.W.nsIn K mainGlobals "_law_lines" = some (some (.ref a_law_lines)))
    (l_law_lines : K.lookup a_law_lines = some ⟨oc_law_lines, od_law_lines, .func (PySem.W.fnOf "_law_lines" "_law_lines" (defArgs s_law_lines) (defBody s_law_lines) (defScope s_law_lines) .none kV_law_lines dc_law_lines pm_law_lines an_law_lines cd_law_lines ct_law_lines), sl_law_lines⟩)
    (c_law_lines : PySem.W.codeIn K cd_law_lines "_law_lines" = true)
    (k_law_lines : PySem.W.keepIn K (.ref a_law_lines) = true)
    (n_law_pieces : PySem.W.nsIn K mainGlobals "_law_pieces" = some (some (.ref a_law_pieces)))
    (l_law_pieces : K.lookup a_law_pieces = some ⟨oc_law_pieces, od_law_pieces, .func (PySem.W.fnOf "_law_pieces" "_law_pieces" (defArgs s_law_pieces) (defBody s_law_pieces) (defScope s_law_pieces) .none kV_law_pieces dc_law_pieces pm_law_pieces an_law_pieces cd_law_pieces ct_law_pieces), sl_law_pieces⟩)
    (c_law_pieces : PySem.W.codeIn K cd_law_pieces "_law_pieces" = true)
    (k_law_pieces : PySem.W.keepIn K (.ref a_law_pieces) = true)
    (n_law_asked : PySem.W.nsIn K mainGlobals "_law_asked" = some (some (.ref a_law_asked)))
    (l_law_asked : K.lookup a_law_asked = some ⟨oc_law_asked, od_law_asked, .func (PySem.W.fnOf "_law_asked" "_law_asked" (defArgs s_law_asked) (defBody s_law_asked) (defScope s_law_asked) .none kV_law_asked dc_law_asked pm_law_asked an_law_asked cd_law_asked ct_law_asked), sl_law_asked⟩)
    (c_law_asked : PySem.W.codeIn K cd_law_asked "_law_asked" = true)
    (k_law_asked : PySem.W.keepIn K (.ref a_law_asked) = true)
    (n_law_due : PySem.W.nsIn K mainGlobals "_law_due" = some (some (.ref a_law_due)))
    (l_law_due : K.lookup a_law_due = some ⟨oc_law_due, od_law_due, .func (PySem.W.fnOf "_law_due" "_law_due" (defArgs s_law_due) (defBody s_law_due) (defScope s_law_due) .none kV_law_due dc_law_due pm_law_due an_law_due cd_law_due ct_law_due), sl_law_due⟩)
    (c_law_due : PySem.W.codeIn K cd_law_due "_law_due" = true)
    (k_law_due : PySem.W.keepIn K (.ref a_law_due) = true)
    (n_law_is : PySem.W.nsIn K mainGlobals "_law_is" = some (some (.ref a_law_is)))
    (l_law_is : K.lookup a_law_is = some ⟨oc_law_is, od_law_is, .func (PySem.W.fnOf "_law_is" "_law_is" (defArgs s_law_is) (defBody s_law_is) (defScope s_law_is) .none kV_law_is dc_law_is pm_law_is an_law_is cd_law_is ct_law_is), sl_law_is⟩)
    (c_law_is : PySem.W.codeIn K cd_law_is "_law_is" = true)
    (k_law_is : PySem.W.keepIn K (.ref a_law_is) = true)
    (n_law_then : PySem.W.nsIn K mainGlobals "_law_then" = some (some (.ref a_law_then)))
    (l_law_then : K.lookup a_law_then = some ⟨oc_law_then, od_law_then, .func (PySem.W.fnOf "_law_then" "_law_then" (defArgs s_law_then) (defBody s_law_then) (defScope s_law_then) .none kV_law_then dc_law_then pm_law_then an_law_then cd_law_then ct_law_then), sl_law_then⟩)
    (c_law_then : PySem.W.codeIn K cd_law_then "_law_then" = true)
    (k_law_then : PySem.W.keepIn K (.ref a_law_then) = true)
    (n_law_change : PySem.W.nsIn K mainGlobals "_law_change" = some (some (.ref a_law_change)))
    (l_law_change : K.lookup a_law_change = some ⟨oc_law_change, od_law_change, .func (PySem.W.fnOf "_law_change" "_law_change" (defArgs s_law_change) (defBody s_law_change) (defScope s_law_change) .none kV_law_change dc_law_change pm_law_change an_law_change cd_law_change ct_law_change), sl_law_change⟩)
    (c_law_change : PySem.W.codeIn K cd_law_change "_law_change" = true)
    (k_law_change : PySem.W.keepIn K (.ref a_law_change) = true)
    (n_law : PySem.W.nsIn K mainGlobals "law" = some (some (.ref a_law)))
    (l_law : K.lookup a_law = some ⟨oc_law, od_law, .func (PySem.W.fnOf "law" "law" (defArgs s_law) (defBody s_law) (defScope s_law) .none kV_law dc_law pm_law an_law cd_law ct_law), sl_law⟩)
    (c_law : PySem.W.codeIn K cd_law "law" = true)
    (k_law : PySem.W.keepIn K (.ref a_law) = true)
    (l_Profile_init : K.lookup a_Profile_init = some ⟨oc_Profile_init, od_Profile_init, .func (PySem.W.fnOf "__init__" "Profile.__init__" (defArgs s_Profile_init) (defBody s_Profile_init) (defScope s_Profile_init) .none kV_Profile_init dc_Profile_init pm_Profile_init an_Profile_init cd_Profile_init ct_Profile_init), sl_Profile_init⟩)
    (c_Profile_init : PySem.W.codeIn K cd_Profile_init "Profile.__init__" = true)
    (k_Profile_init : PySem.W.keepIn K (.ref a_Profile_init) = true)
    (l_Profile_initJ : K.lookup a_Profile_initJ = some ⟨oc_Profile_initJ, od_Profile_initJ, .func (PySem.W.fnOf "__init__" "Profile.__init__" (defArgs s_Profile_initJ) (defBody s_Profile_initJ) (defScope s_Profile_initJ) .none kV_Profile_initJ dc_Profile_initJ pm_Profile_initJ an_Profile_initJ cd_Profile_initJ ct_Profile_initJ), sl_Profile_initJ⟩)
    (c_Profile_initJ : PySem.W.codeIn K cd_Profile_initJ "Profile.__init__" = true)
    (k_Profile_initJ : PySem.W.keepIn K (.ref a_Profile_initJ) = true)
    (l_Profile_call : K.lookup a_Profile_call = some ⟨oc_Profile_call, od_Profile_call, .func (PySem.W.fnOf "__call__" "Profile.__call__" (defArgs s_Profile_call) (defBody s_Profile_call) (defScope s_Profile_call) .none kV_Profile_call dc_Profile_call pm_Profile_call an_Profile_call cd_Profile_call ct_Profile_call), sl_Profile_call⟩)
    (c_Profile_call : PySem.W.codeIn K cd_Profile_call "Profile.__call__" = true)
    (k_Profile_call : PySem.W.keepIn K (.ref a_Profile_call) = true)
    (l_Profile_iter : K.lookup a_Profile_iter = some ⟨oc_Profile_iter, od_Profile_iter, .func (PySem.W.fnOf "__iter__" "Profile.__iter__" (defArgs s_Profile_iter) (defBody s_Profile_iter) (defScope s_Profile_iter) .none kV_Profile_iter dc_Profile_iter pm_Profile_iter an_Profile_iter cd_Profile_iter ct_Profile_iter), sl_Profile_iter⟩)
    (c_Profile_iter : PySem.W.codeIn K cd_Profile_iter "Profile.__iter__" = true)
    (k_Profile_iter : PySem.W.keepIn K (.ref a_Profile_iter) = true)
    (l_Profile_then : K.lookup a_Profile_then = some ⟨oc_Profile_then, od_Profile_then, .func (PySem.W.fnOf "then" "Profile.then" (defArgs s_Profile_then) (defBody s_Profile_then) (defScope s_Profile_then) .none kV_Profile_then dc_Profile_then pm_Profile_then an_Profile_then cd_Profile_then ct_Profile_then), sl_Profile_then⟩)
    (c_Profile_then : PySem.W.codeIn K cd_Profile_then "Profile.then" = true)
    (k_Profile_then : PySem.W.keepIn K (.ref a_Profile_then) = true) :
    ∃ fd : FuncData, (∀ (s : Shared) (v : Value), BindsTo s fd ⟨[v], []⟩ [("_law_script", v)]) ∧ ∀ base : Heap, K.In base → base.Ns mainGlobals mg → FnOk P w K mg base (L2.CX P w) 12 fa fd ["_law_script"] (spLw K 63) := by
  have e := hfa.symm.trans (PySem.W.mg_of X G n_law)
  cases e
  have BB : Bl mg := ⟨PySem.W.mg_none_of X G z_abs, PySem.W.mg_none_of X G z_bool, PySem.W.mg_none_of X G z_enumerate, PySem.W.mg_none_of X G z_int, PySem.W.mg_none_of X G z_isinstance, PySem.W.mg_none_of X G z_iter, PySem.W.mg_none_of X G z_len, PySem.W.mg_none_of X G z_list, PySem.W.mg_none_of X G z_max, PySem.W.mg_none_of X G z_min, PySem.W.mg_none_of X G z_range, PySem.W.mg_none_of X G z_reversed, PySem.W.mg_none_of X G z_sum, PySem.W.mg_none_of X G z_tuple⟩
  have T : Tx P K mg (caOf [e_InvalidPeriod, e_SetupAboveCap, e_NoPeriods, 0, 0, 0, 0, e_InvalidEnding, 0, 0, 0, 0]) := { gm_InvalidPeriod := PySem.W.mg_of X G ns_InvalidPeriod, x_InvalidPeriod := x_InvalidPeriod, gm_SetupAboveCap := PySem.W.mg_of X G ns_SetupAboveCap, x_SetupAboveCap := x_SetupAboveCap, gm_NoPeriods := PySem.W.mg_of X G ns_NoPeriods, q_NoPeriods := q_NoPeriods, kp_NoPeriods := kp_NoPeriods, sb_NoPeriods := sb_NoPeriods, ty_NoPeriods := ty_NoPeriods, gm_InvalidEnding := PySem.W.mg_of X G ns_InvalidEnding, q_InvalidEnding := q_InvalidEnding, kp_InvalidEnding := kp_InvalidEnding, sb_InvalidEnding := sb_InvalidEnding, ty_InvalidEnding := ty_InvalidEnding, sub := fun c hc b h => by unfold SB at h; cases h }
  have O_Profile : Ox_Profile K mg pC a_Profile_init a_Profile_initJ a_Profile_call a_Profile_iter a_Profile_then := { gm := PySem.W.mg_of X G nC, cl := ⟨⟨cl1, cl2, cl3, cl4⟩, fun f hf => by simp only [ns_Profile, List.mem_cons, List.not_mem_nil, or_false] at hf; rcases hf with rfl | rfl | rfl | rfl; exact na_periods; exact na_size; exact na_floor; exact na_pieces, by decide +kernel⟩, made := ⟨mk1, fi_Profile_init, fn_Profile_init, mk4⟩, madeJ := ⟨mk1, fi_Profile_initJ, fn_Profile_initJ, mk4⟩, co := ⟨fi_Profile_call, fn_Profile_call, fx_Profile_call⟩, it := ⟨fi_Profile_iter, fn_Profile_iter, nolen, nohint⟩, m_then := ⟨fi_Profile_then, fn_Profile_then, k_Profile_then⟩ }
  have F_check_periods := fun_mk (st := s_check_periods) l_check_periods c_check_periods k_check_periods
  have D_check_periods : BindD K (PySem.W.fnOf "check_periods" "check_periods" (defArgs s_check_periods) (defBody s_check_periods) (defScope s_check_periods) .none (.ref kd_check_periods) dc_check_periods pm_check_periods an_check_periods cd_check_periods ct_check_periods) ["periods", "cap"] .none := bindD_none (FunD.binds0 (F := ⟨⟨_, _, _, _, _, _, _, _, _, _, rfl, l_check_periods, c_check_periods, .inl ⟨rfl, rfl⟩, .inr ⟨kd_check_periods, rfl, fun q hq => by rw [List.mem_singleton.mp hq]; exact ⟨_, d_check_periods, by first | rfl | exact ⟨_, rfl⟩⟩⟩⟩, k_check_periods⟩) (kws := [("cap", .non)]) (ps := ["periods", "cap"]) 1 (by simp) rfl (fun D doc pm an cdv ct us ks hu hk => match us, ks, hu, hk with | [_], [_], _, _ => ⟨_, _, _, _, _, _, rfl, rfl, rfl⟩))
  have F_last_costs := fun_mk (st := s_last_costs) l_last_costs c_last_costs k_last_costs
  have B_last_costs := F_last_costs.binds (ps := ["periods", "costs", "count", "ending"]) fun _ _ _ _ _ _ us hl => match us, hl with | [_, _, _, _], _ => rfl
  have F_least_costs := fun_mk (st := s_least_costs) l_least_costs c_least_costs k_least_costs
  have B_least_costs := F_least_costs.binds (ps := ["periods"]) fun _ _ _ _ _ _ us hl => match us, hl with | [_], _ => rfl
  have F_check_ending := fun_mk (st := s_check_ending) l_check_ending c_check_ending k_check_ending
  have B_check_ending := F_check_ending.binds (ps := ["periods", "ending"]) fun _ _ _ _ _ _ us hl => match us, hl with | [_, _], _ => rfl
  have F_least_cost := fun_mk (st := s_least_cost) l_least_cost c_least_cost k_least_cost
  have D_least_cost : BindD K (PySem.W.fnOf "least_cost" "least_cost" (defArgs s_least_cost) (defBody s_least_cost) (defScope s_least_cost) .none (.ref kd_least_cost) dc_least_cost pm_least_cost an_least_cost cd_least_cost ct_least_cost) ["periods", "ending"] (.int 0) := bindD_zero (FunD.binds0 (F := ⟨⟨_, _, _, _, _, _, _, _, _, _, rfl, l_least_cost, c_least_cost, .inl ⟨rfl, rfl⟩, .inr ⟨kd_least_cost, rfl, fun q hq => by rw [List.mem_singleton.mp hq]; exact ⟨_, d_least_cost, by first | rfl | exact ⟨_, rfl⟩⟩⟩⟩, k_least_cost⟩) (kws := [("ending", .int 0)]) (ps := ["periods", "ending"]) 1 (by simp) rfl (fun D doc pm an cdv ct us ks hu hk => match us, ks, hu, hk with | [_], [_], _, _ => ⟨_, _, _, _, _, _, rfl, rfl, rfl⟩))
  have F_cost_lines := fun_mk (st := s_cost_lines) l_cost_lines c_cost_lines k_cost_lines
  have B_cost_lines := F_cost_lines.binds (ps := ["periods"]) fun _ _ _ _ _ _ us hl => match us, hl with | [_], _ => rfl
  have F_best_ranges := fun_mk (st := s_best_ranges) l_best_ranges c_best_ranges k_best_ranges
  have B_best_ranges := F_best_ranges.binds (ps := ["lines"]) fun _ _ _ _ _ _ us hl => match us, hl with | [_], _ => rfl
  have F_profile_pieces := fun_mk (st := s_profile_pieces) l_profile_pieces c_profile_pieces k_profile_pieces
  have B_profile_pieces := F_profile_pieces.binds (ps := ["periods"]) fun _ _ _ _ _ _ us hl => match us, hl with | [_], _ => rfl
  have F_profile_pieces__o := fun_mk (st := s_profile_pieces__o) l_profile_pieces__o c_profile_pieces__o k_profile_pieces__o
  have B_profile_pieces__o := F_profile_pieces__o.binds (ps := ["periods"]) fun _ _ _ _ _ _ us hl => match us, hl with | [_], _ => rfl
  have F_law_cell := fun_mk (st := s_law_cell) l_law_cell c_law_cell k_law_cell
  have B_law_cell := F_law_cell.binds (ps := ["_law_script", "_law_k"]) fun _ _ _ _ _ _ us hl => match us, hl with | [_, _], _ => rfl
  have F_law_number := fun_mk (st := s_law_number) l_law_number c_law_number k_law_number
  have B_law_number := F_law_number.binds (ps := ["_law_script", "_law_k"]) fun _ _ _ _ _ _ us hl => match us, hl with | [_, _], _ => rfl
  have F_law_period := fun_mk (st := s_law_period) l_law_period c_law_period k_law_period
  have B_law_period := F_law_period.binds (ps := ["_law_number_here", "_law_scale"]) fun _ _ _ _ _ _ us hl => match us, hl with | [_, _], _ => rfl
  have F_law_periods := fun_mk (st := s_law_periods) l_law_periods c_law_periods k_law_periods
  have B_law_periods := F_law_periods.binds (ps := ["_law_script", "_law_start", "_law_count", "_law_scale"]) fun _ _ _ _ _ _ us hl => match us, hl with | [_, _, _, _], _ => rfl
  have F_law_shape := fun_mk (st := s_law_shape) l_law_shape c_law_shape k_law_shape
  have B_law_shape := F_law_shape.binds (ps := ["_law_script", "_law_most"]) fun _ _ _ _ _ _ us hl => match us, hl with | [_, _], _ => rfl
  have F_law_grown := fun_mk (st := s_law_grown) l_law_grown c_law_grown k_law_grown
  have B_law_grown := F_law_grown.binds (ps := ["_law_script", "_law_many"]) fun _ _ _ _ _ _ us hl => match us, hl with | [_, _], _ => rfl
  have F_law_costs := fun_mk (st := s_law_costs) l_law_costs c_law_costs k_law_costs
  have B_law_costs := F_law_costs.binds (ps := ["_law_periods_here"]) fun _ _ _ _ _ _ us hl => match us, hl with | [_], _ => rfl
  have F_law_high := fun_mk (st := s_law_high) l_law_high c_law_high k_law_high
  have B_law_high := F_law_high.binds (ps := ["_law_periods_here", "_law_final"]) fun _ _ _ _ _ _ us hl => match us, hl with | [_, _], _ => rfl
  have F_law_least := fun_mk (st := s_law_least) l_law_least c_law_least k_law_least
  have B_law_least := F_law_least.binds (ps := ["_law_periods_here", "_law_final"]) fun _ _ _ _ _ _ us hl => match us, hl with | [_, _], _ => rfl
  have F_law_same := fun_mk (st := s_law_same) l_law_same c_law_same k_law_same
  have B_law_same := F_law_same.binds (ps := ["_law_actual", "_law_due_here"]) fun _ _ _ _ _ _ us hl => match us, hl with | [_, _], _ => rfl
  have F_law_lines := fun_mk (st := s_law_lines) l_law_lines c_law_lines k_law_lines
  have B_law_lines := F_law_lines.binds (ps := ["_law_periods_here"]) fun _ _ _ _ _ _ us hl => match us, hl with | [_], _ => rfl
  have F_law_pieces := fun_mk (st := s_law_pieces) l_law_pieces c_law_pieces k_law_pieces
  have B_law_pieces := F_law_pieces.binds (ps := ["_law_periods_here"]) fun _ _ _ _ _ _ us hl => match us, hl with | [_], _ => rfl
  have F_law_asked := fun_mk (st := s_law_asked) l_law_asked c_law_asked k_law_asked
  have B_law_asked := F_law_asked.binds (ps := ["_law_rows", "_law_finals"]) fun _ _ _ _ _ _ us hl => match us, hl with | [_, _], _ => rfl
  have F_law_due := fun_mk (st := s_law_due) l_law_due c_law_due k_law_due
  have B_law_due := F_law_due.binds (ps := ["_law_rows", "_law_finals"]) fun _ _ _ _ _ _ us hl => match us, hl with | [_, _], _ => rfl
  have F_law_is := fun_mk (st := s_law_is) l_law_is c_law_is k_law_is
  have B_law_is := F_law_is.binds (ps := ["_law_held", "_law_rows", "_law_finals", "_law_due_here"]) fun _ _ _ _ _ _ us hl => match us, hl with | [_, _, _, _], _ => rfl
  have F_law_then := fun_mk (st := s_law_then) l_law_then c_law_then k_law_then
  have B_law_then := F_law_then.binds (ps := ["_law_held", "_law_extra", "_law_due_here"]) fun _ _ _ _ _ _ us hl => match us, hl with | [_, _, _], _ => rfl
  have F_law_change := fun_mk (st := s_law_change) l_law_change c_law_change k_law_change
  have B_law_change := F_law_change.binds (ps := ["_law_given", "_law_extra", "_law_number_here"]) fun _ _ _ _ _ _ us hl => match us, hl with | [_, _, _], _ => rfl
  have F_law := fun_mk (st := s_law) l_law c_law k_law
  have F_Profile_init := fun_mk (st := s_Profile_init) l_Profile_init c_Profile_init k_Profile_init
  have B_Profile_init := F_Profile_init.binds (ps := ["self", "periods"]) fun _ _ _ _ _ _ us hl => match us, hl with | [_, _], _ => rfl
  have F_Profile_initJ := fun_mk (st := s_Profile_initJ) l_Profile_initJ c_Profile_initJ k_Profile_initJ
  have B_Profile_initJ := F_Profile_initJ.binds (ps := ["self", "periods"]) fun _ _ _ _ _ _ us hl => match us, hl with | [_, _], _ => rfl
  have F_Profile_call := fun_mk (st := s_Profile_call) l_Profile_call c_Profile_call k_Profile_call
  have B_Profile_call := F_Profile_call.binds (ps := ["self", "ending"]) fun _ _ _ _ _ _ us hl => match us, hl with | [_, _], _ => rfl
  have F_Profile_iter := fun_mk (st := s_Profile_iter) l_Profile_iter c_Profile_iter k_Profile_iter
  have B_Profile_iter := F_Profile_iter.binds (ps := ["self"]) fun _ _ _ _ _ _ us hl => match us, hl with | [_], _ => rfl
  have F_Profile_then := fun_mk (st := s_Profile_then) l_Profile_then c_Profile_then k_Profile_then
  have B_Profile_then := F_Profile_then.binds (ps := ["self", "period"]) fun _ _ _ _ _ _ us hl => match us, hl with | [_, _], _ => rfl
  refine ⟨(PySem.W.fnOf "law" "law" (defArgs s_law) (defBody s_law) (defScope s_law) .none kV_law dc_law pm_law an_law cd_law ct_law), fun s v => .of_eq rfl, fun base _ _ => ?_⟩
  have C_check_periods : Df P w K mg base (caOf [e_InvalidPeriod, e_SetupAboveCap, e_NoPeriods, 0, 0, 0, 0, e_InvalidEnding, 0, 0, 0, 0]) cfG 1 "check_periods" a_check_periods _ ["periods", "cap"] .e f_check_periods := df_mk (ok_check_periods F_check_periods BB T ) rfl (PySem.W.mg_of X G n_check_periods) k_check_periods (fun ds h => runB_len ds h)
  have C_last_costs : Df P w K mg base (caOf [e_InvalidPeriod, e_SetupAboveCap, e_NoPeriods, 0, 0, 0, 0, e_InvalidEnding, 0, 0, 0, 0]) cfG 1 "last_costs" a_last_costs _ ["periods", "costs", "count", "ending"] .e f_last_costs := df_mk (ok_last_costs F_last_costs BB T ) rfl (PySem.W.mg_of X G n_last_costs) k_last_costs (fun ds h => runB_len ds h)
  have C_best_ranges : Df P w K mg base (caOf [e_InvalidPeriod, e_SetupAboveCap, e_NoPeriods, 0, 0, 0, 0, e_InvalidEnding, 0, 0, 0, 0]) cfG 1 "best_ranges" a_best_ranges _ ["lines"] .e f_best_ranges := df_mk (ok_best_ranges F_best_ranges BB T ) rfl (PySem.W.mg_of X G n_best_ranges) k_best_ranges (fun ds h => runB_len ds h)
  have C_law_cell : Df P w K mg base (caOf [e_InvalidPeriod, e_SetupAboveCap, e_NoPeriods, 0, 0, 0, 0, e_InvalidEnding, 0, 0, 0, 0]) cfG 1 "_law_cell" a_law_cell _ ["_law_script", "_law_k"] .e f_law_cell := df_mk (ok_law_cell F_law_cell BB T ) rfl (PySem.W.mg_of X G n_law_cell) k_law_cell (fun ds h => runB_len ds h)
  have C_law_period : Df P w K mg base (caOf [e_InvalidPeriod, e_SetupAboveCap, e_NoPeriods, 0, 0, 0, 0, e_InvalidEnding, 0, 0, 0, 0]) cfG 1 "_law_period" a_law_period _ ["_law_number_here", "_law_scale"] .e f_law_period := df_mk (ok_law_period F_law_period BB T ) rfl (PySem.W.mg_of X G n_law_period) k_law_period (fun ds h => runB_len ds h)
  have C_law_costs : Df P w K mg base (caOf [e_InvalidPeriod, e_SetupAboveCap, e_NoPeriods, 0, 0, 0, 0, e_InvalidEnding, 0, 0, 0, 0]) cfG 1 "_law_costs" a_law_costs _ ["_law_periods_here"] .e f_law_costs := df_mk (ok_law_costs F_law_costs BB T ) rfl (PySem.W.mg_of X G n_law_costs) k_law_costs (fun ds h => runB_len ds h)
  have C_law_high : Df P w K mg base (caOf [e_InvalidPeriod, e_SetupAboveCap, e_NoPeriods, 0, 0, 0, 0, e_InvalidEnding, 0, 0, 0, 0]) cfG 1 "_law_high" a_law_high _ ["_law_periods_here", "_law_final"] .e f_law_high := df_mk (ok_law_high F_law_high BB T ) rfl (PySem.W.mg_of X G n_law_high) k_law_high (fun ds h => runB_len ds h)
  have C_law_asked : Df P w K mg base (caOf [e_InvalidPeriod, e_SetupAboveCap, e_NoPeriods, 0, 0, 0, 0, e_InvalidEnding, 0, 0, 0, 0]) cfG 1 "_law_asked" a_law_asked _ ["_law_rows", "_law_finals"] .e f_law_asked := df_mk (ok_law_asked F_law_asked BB T ) rfl (PySem.W.mg_of X G n_law_asked) k_law_asked (fun ds h => runB_len ds h)
  have C_law_change := And.intro (ok_law_change (P := P) (w := w) (base := base) (ca := (caOf [e_InvalidPeriod, e_SetupAboveCap, e_NoPeriods, 0, 0, 0, 0, e_InvalidEnding, 0, 0, 0, 0])) F_law_change BB T O_Profile) (And.intro (PySem.W.mg_of X G n_law_change) k_law_change)
  have C_Profile_call := ok_Profile_call (P := P) (w := w) (base := base) (ca := (caOf [e_InvalidPeriod, e_SetupAboveCap, e_NoPeriods, 0, 0, 0, 0, e_InvalidEnding, 0, 0, 0, 0])) F_Profile_call BB T O_Profile
  have C_Profile_iter := ok_Profile_iter (P := P) (w := w) (base := base) (ca := (caOf [e_InvalidPeriod, e_SetupAboveCap, e_NoPeriods, 0, 0, 0, 0, e_InvalidEnding, 0, 0, 0, 0])) F_Profile_iter BB T O_Profile
  have C_least_costs : Df P w K mg base (caOf [e_InvalidPeriod, e_SetupAboveCap, e_NoPeriods, 0, 0, 0, 0, e_InvalidEnding, 0, 0, 0, 0]) cfG 2 "least_costs" a_least_costs _ ["periods"] .o f_least_costs := df_mk (ok_least_costs F_least_costs BB T C_check_periods D_check_periods C_last_costs B_last_costs) rfl (PySem.W.mg_of X G n_least_costs) k_least_costs (fun ds h => runB_len ds h)
  have C_check_ending : Df P w K mg base (caOf [e_InvalidPeriod, e_SetupAboveCap, e_NoPeriods, 0, 0, 0, 0, e_InvalidEnding, 0, 0, 0, 0]) cfG 2 "check_ending" a_check_ending _ ["periods", "ending"] .e f_check_ending := df_mk (ok_check_ending F_check_ending BB T C_check_periods D_check_periods) rfl (PySem.W.mg_of X G n_check_ending) k_check_ending (fun ds h => runB_len ds h)
  have C_law_number : Df P w K mg base (caOf [e_InvalidPeriod, e_SetupAboveCap, e_NoPeriods, 0, 0, 0, 0, e_InvalidEnding, 0, 0, 0, 0]) cfG 2 "_law_number" a_law_number _ ["_law_script", "_law_k"] .e f_law_number := df_mk (ok_law_number F_law_number BB T C_law_cell B_law_cell) rfl (PySem.W.mg_of X G n_law_number) k_law_number (fun ds h => runB_len ds h)
  have C_law_shape : Df P w K mg base (caOf [e_InvalidPeriod, e_SetupAboveCap, e_NoPeriods, 0, 0, 0, 0, e_InvalidEnding, 0, 0, 0, 0]) cfG 2 "_law_shape" a_law_shape _ ["_law_script", "_law_most"] .e f_law_shape := df_mk (ok_law_shape F_law_shape BB T C_law_cell B_law_cell) rfl (PySem.W.mg_of X G n_law_shape) k_law_shape (fun ds h => runB_len ds h)
  have C_law_least : Df P w K mg base (caOf [e_InvalidPeriod, e_SetupAboveCap, e_NoPeriods, 0, 0, 0, 0, e_InvalidEnding, 0, 0, 0, 0]) cfG 2 "_law_least" a_law_least _ ["_law_periods_here", "_law_final"] .e f_law_least := df_mk (ok_law_least F_law_least BB T C_law_costs B_law_costs C_law_high B_law_high) rfl (PySem.W.mg_of X G n_law_least) k_law_least (fun ds h => runB_len ds h)
  have C_law_lines : Df P w K mg base (caOf [e_InvalidPeriod, e_SetupAboveCap, e_NoPeriods, 0, 0, 0, 0, e_InvalidEnding, 0, 0, 0, 0]) cfG 2 "_law_lines" a_law_lines _ ["_law_periods_here"] .e f_law_lines := df_mk (ok_law_lines F_law_lines BB T C_law_costs B_law_costs) rfl (PySem.W.mg_of X G n_law_lines) k_law_lines (fun ds h => runB_len ds h)
  have C_least_cost : Df P w K mg base (caOf [e_InvalidPeriod, e_SetupAboveCap, e_NoPeriods, 0, 0, 0, 0, e_InvalidEnding, 0, 0, 0, 0]) cfG 3 "least_cost" a_least_cost _ ["periods", "ending"] .e f_least_cost := df_mk (ok_least_cost F_least_cost BB T C_last_costs B_last_costs C_least_costs B_least_costs C_check_ending B_check_ending) rfl (PySem.W.mg_of X G n_least_cost) k_least_cost (fun ds h => runB_len ds h)
  have C_cost_lines : Df P w K mg base (caOf [e_InvalidPeriod, e_SetupAboveCap, e_NoPeriods, 0, 0, 0, 0, e_InvalidEnding, 0, 0, 0, 0]) cfG 3 "cost_lines" a_cost_lines _ ["periods"] .e f_cost_lines := df_mk (ok_cost_lines F_cost_lines BB T C_last_costs B_last_costs C_least_costs B_least_costs) rfl (PySem.W.mg_of X G n_cost_lines) k_cost_lines (fun ds h => runB_len ds h)
  have C_law_periods : Df P w K mg base (caOf [e_InvalidPeriod, e_SetupAboveCap, e_NoPeriods, 0, 0, 0, 0, e_InvalidEnding, 0, 0, 0, 0]) cfG 3 "_law_periods" a_law_periods _ ["_law_script", "_law_start", "_law_count", "_law_scale"] .o f_law_periods := df_mk (ok_law_periods F_law_periods BB T C_law_number B_law_number C_law_period B_law_period) rfl (PySem.W.mg_of X G n_law_periods) k_law_periods (fun ds h => runB_len ds h)
  have C_law_grown : Df P w K mg base (caOf [e_InvalidPeriod, e_SetupAboveCap, e_NoPeriods, 0, 0, 0, 0, e_InvalidEnding, 0, 0, 0, 0]) cfG 3 "_law_grown" a_law_grown _ ["_law_script", "_law_many"] .e f_law_grown := df_mk (ok_law_grown F_law_grown BB T C_law_number B_law_number) rfl (PySem.W.mg_of X G n_law_grown) k_law_grown (fun ds h => runB_len ds h)
  have C_law_pieces : Df P w K mg base (caOf [e_InvalidPeriod, e_SetupAboveCap, e_NoPeriods, 0, 0, 0, 0, e_InvalidEnding, 0, 0, 0, 0]) cfG 3 "_law_pieces" a_law_pieces _ ["_law_periods_here"] (.w (.r (.r .g))) f_law_pieces := df_mk (ok_law_pieces F_law_pieces BB T C_law_lines B_law_lines) rfl (PySem.W.mg_of X G n_law_pieces) k_law_pieces (fun ds h => runB_len ds h)
  have C_profile_pieces : Df P w K mg base (caOf [e_InvalidPeriod, e_SetupAboveCap, e_NoPeriods, 0, 0, 0, 0, e_InvalidEnding, 0, 0, 0, 0]) cfG 4 "profile_pieces" a_profile_pieces _ ["periods"] .e f_profile_pieces := df_mk (ok_profile_pieces F_profile_pieces BB T C_cost_lines B_cost_lines C_best_ranges B_best_ranges) rfl (PySem.W.mg_of X G n_profile_pieces) k_profile_pieces (fun ds h => runB_len ds h)
  have C_profile_pieces__o : Df P w K mg base (caOf [e_InvalidPeriod, e_SetupAboveCap, e_NoPeriods, 0, 0, 0, 0, e_InvalidEnding, 0, 0, 0, 0]) cfG 4 "profile_pieces" a_profile_pieces__o _ ["periods"] .o f_profile_pieces__o_k22 := df_mk (ok_profile_pieces__o F_profile_pieces__o BB T C_cost_lines B_cost_lines C_best_ranges B_best_ranges) rfl (PySem.W.mg_of X G n_profile_pieces__o) k_profile_pieces__o (fun ds h => runB_len ds h)
  have C_law_due : Df P w K mg base (caOf [e_InvalidPeriod, e_SetupAboveCap, e_NoPeriods, 0, 0, 0, 0, e_InvalidEnding, 0, 0, 0, 0]) cfG 4 "_law_due" a_law_due _ ["_law_rows", "_law_finals"] .e f_law_due := df_mk (ok_law_due F_law_due BB T C_law_costs B_law_costs C_law_least B_law_least C_law_lines B_law_lines C_law_pieces B_law_pieces C_law_asked B_law_asked) rfl (PySem.W.mg_of X G n_law_due) k_law_due (fun ds h => runB_len ds h)
  have C_Profile_init := ok_Profile_init (P := P) (w := w) (base := base) (ca := (caOf [e_InvalidPeriod, e_SetupAboveCap, e_NoPeriods, 0, 0, 0, 0, e_InvalidEnding, 0, 0, 0, 0])) F_Profile_init BB T O_Profile C_check_periods D_check_periods C_least_cost D_least_cost C_profile_pieces B_profile_pieces
  have C_Profile_initJ := ok_Profile_initJ (P := P) (w := w) (base := base) (ca := (caOf [e_InvalidPeriod, e_SetupAboveCap, e_NoPeriods, 0, 0, 0, 0, e_InvalidEnding, 0, 0, 0, 0])) F_Profile_initJ BB T O_Profile C_check_periods D_check_periods C_least_cost D_least_cost C_profile_pieces__o B_profile_pieces__o
  have C_Profile_then := ok_Profile_then (P := P) (w := w) (base := base) (ca := (caOf [e_InvalidPeriod, e_SetupAboveCap, e_NoPeriods, 0, 0, 0, 0, e_InvalidEnding, 0, 0, 0, 0])) F_Profile_then BB T O_Profile C_Profile_init B_Profile_init
  have C_law_same : Df P w K mg base (caOf [e_InvalidPeriod, e_SetupAboveCap, e_NoPeriods, 0, 0, 0, 0, e_InvalidEnding, 0, 0, 0, 0]) cfG 10 "_law_same" a_law_same _ ["_law_actual", "_law_due_here"] .e f_law_same := df_mk (ok_law_same F_law_same BB T (PySem.W.mg_of X G n_law_same) k_law_same B_law_same) rfl (PySem.W.mg_of X G n_law_same) k_law_same (fun ds h => runB_len ds h)
  have C_law_is : Df P w K mg base (caOf [e_InvalidPeriod, e_SetupAboveCap, e_NoPeriods, 0, 0, 0, 0, e_InvalidEnding, 0, 0, 0, 0]) cfG 11 "_law_is" a_law_is _ ["_law_held", "_law_rows", "_law_finals", "_law_due_here"] .e (f_law_is_k22 pC) := df_mk (ok_law_is F_law_is BB T O_Profile C_law_same B_law_same C_law_asked B_law_asked C_Profile_call B_Profile_call C_Profile_iter B_Profile_iter) rfl (PySem.W.mg_of X G n_law_is) k_law_is (fun ds h => runB_len ds h)
  have C_law_then : Df P w K mg base (caOf [e_InvalidPeriod, e_SetupAboveCap, e_NoPeriods, 0, 0, 0, 0, e_InvalidEnding, 0, 0, 0, 0]) cfG 11 "_law_then" a_law_then _ ["_law_held", "_law_extra", "_law_due_here"] .e (f_law_then_k22 pC) := df_mk (ok_law_then F_law_then BB T O_Profile C_law_same B_law_same C_Profile_iter B_Profile_iter C_Profile_then B_Profile_then) rfl (PySem.W.mg_of X G n_law_then) k_law_then (fun ds h => runB_len ds h)
  exact law_end (ok_law F_law BB T O_Profile C_law_number B_law_number C_law_period B_law_period C_law_periods B_law_periods C_law_shape B_law_shape C_law_grown B_law_grown C_law_least B_law_least C_law_same B_law_same C_law_due B_law_due C_law_is B_law_is C_law_then B_law_then C_law_change B_law_change C_Profile_initJ B_Profile_initJ C_Profile_call B_Profile_call C_Profile_iter B_Profile_iter) nl (law_true _)
end Lw
open PySem PySem.W PyProof.Rows
set_option maxRecDepth 100000 in
set_option maxHeartbeats 8000000 in
theorem PySem.Challenge.cw_laterwants_k22_profile_keeps_a_copy_holds : PySem.Challenge.rw_laterwants_k22_profile_keeps_a_copy.Holds := by
  w_on; o_law; k_head; (case hw => w_witness2)
  k_fill
  refine L2.walk_ofB (l := PySem.Challenge.rw_laterwants_k22_profile_keeps_a_copy) (n := 63) (k := 12) (x := "_law_script") (CX := fun w => L2.CX (PySem.Challenge.rw_laterwants_k22_profile_keeps_a_copy).prog w) (sp := fun w => Ct.spLw _ 63) rfl (by decide) rfl ⟨rfl, by decide, by decide⟩ (fun w h Y => PySem.W.kIn_of Y) ?F (fun _ _ a ns hl hb hO hS => ⟨a, ns, rfl, hS, hl, hb, hO, fun _ => rfl⟩) (fun _ _ _ _ _ h => Ct.cx_nil h)
  case F =>
    intro w mg fa h KX G hmg
    refine' Lw.all_mk KX G hmg ?nl ?z_abs ?z_bool ?z_enumerate ?z_int ?z_isinstance ?z_iter ?z_len ?z_list ?z_max ?z_min ?z_range ?z_reversed ?z_sum ?z_tuple ?ns_InvalidPeriod ?ns_SetupAboveCap ?ns_NoPeriods ?ns_InvalidEnding ?x_InvalidPeriod ?x_SetupAboveCap ?q_NoPeriods ?kp_NoPeriods ?sb_NoPeriods ?ty_NoPeriods ?q_InvalidEnding ?kp_InvalidEnding ?sb_InvalidEnding ?ty_InvalidEnding ?nC ?cl1 ?cl2 ?cl3 ?cl4 ?na_periods ?na_size ?na_floor ?na_pieces ?mk1 ?mk4 ?fi_Profile_init ?fn_Profile_init ?fi_Profile_initJ ?fn_Profile_initJ ?fi_Profile_call ?fn_Profile_call ?fx_Profile_call ?fi_Profile_iter ?fn_Profile_iter ?nolen ?nohint ?fi_Profile_then ?fn_Profile_then ?n_check_periods ?l_check_periods ?c_check_periods ?k_check_periods ?d_check_periods ?n_last_costs ?l_last_costs ?c_last_costs ?k_last_costs ?n_least_costs ?l_least_costs ?c_least_costs ?k_least_costs ?n_check_ending ?l_check_ending ?c_check_ending ?k_check_ending ?n_least_cost ?l_least_cost ?c_least_cost ?k_least_cost ?d_least_cost ?n_cost_lines ?l_cost_lines ?c_cost_lines ?k_cost_lines ?n_best_ranges ?l_best_ranges ?c_best_ranges ?k_best_ranges ?n_profile_pieces ?l_profile_pieces ?c_profile_pieces ?k_profile_pieces ?n_profile_pieces__o ?l_profile_pieces__o ?c_profile_pieces__o ?k_profile_pieces__o ?n_law_cell ?l_law_cell ?c_law_cell ?k_law_cell ?n_law_number ?l_law_number ?c_law_number ?k_law_number ?n_law_period ?l_law_period ?c_law_period ?k_law_period ?n_law_periods ?l_law_periods ?c_law_periods ?k_law_periods ?n_law_shape ?l_law_shape ?c_law_shape ?k_law_shape ?n_law_grown ?l_law_grown ?c_law_grown ?k_law_grown ?n_law_costs ?l_law_costs ?c_law_costs ?k_law_costs ?n_law_high ?l_law_high ?c_law_high ?k_law_high ?n_law_least ?l_law_least ?c_law_least ?k_law_least ?n_law_same ?l_law_same ?c_law_same ?k_law_same ?n_law_lines ?l_law_lines ?c_law_lines ?k_law_lines ?n_law_pieces ?l_law_pieces ?c_law_pieces ?k_law_pieces ?n_law_asked ?l_law_asked ?c_law_asked ?k_law_asked ?n_law_due ?l_law_due ?c_law_due ?k_law_due ?n_law_is ?l_law_is ?c_law_is ?k_law_is ?n_law_then ?l_law_then ?c_law_then ?k_law_then ?n_law_change ?l_law_change ?c_law_change ?k_law_change ?n_law ?l_law ?c_law ?k_law ?l_Profile_init ?c_Profile_init ?k_Profile_init ?l_Profile_initJ ?c_Profile_initJ ?k_Profile_initJ ?l_Profile_call ?c_Profile_call ?k_Profile_call ?l_Profile_iter ?c_Profile_iter ?k_Profile_iter ?l_Profile_then ?c_Profile_then ?k_Profile_then
    (case nl => first | rfl | kernel_rfl | decide +kernel)
    (case z_abs => k_is)
    (case z_bool => k_is)
    (case z_enumerate => k_is)
    (case z_int => k_is)
    (case z_isinstance => k_is)
    (case z_iter => k_is)
    (case z_len => k_is)
    (case z_list => k_is)
    (case z_max => k_is)
    (case z_min => k_is)
    (case z_range => k_is)
    (case z_reversed => k_is)
    (case z_sum => k_is)
    (case z_tuple => k_is)
    (case ns_InvalidPeriod => k_is)
    (case ns_SetupAboveCap => k_is)
    (case ns_NoPeriods => k_is)
    (case ns_InvalidEnding => k_is)
    (case x_InvalidPeriod => refine' Ct.mk_exF1 (msg := "invalid period") (j := 0) (p0 := ⟨7, 8, 7, 13⟩) (p1 := ⟨7, 8, 7, 15⟩) (p2 := ⟨7, 8, 7, 24⟩) (p3 := ⟨7, 25, 7, 41⟩) (p4 := ⟨7, 8, 7, 42⟩) (p5 := ⟨7, 8, 7, 42⟩) (q1 := ⟨8, 8, 8, 12⟩) (q2 := ⟨8, 8, 8, 18⟩) (q3 := ⟨8, 21, 8, 26⟩) (q4 := ⟨8, 8, 8, 26⟩) (s1 := ⟨6, 17, 6, 21⟩) (s2 := ⟨6, 23, 6, 28⟩) KX G ?gC_InvalidPeriod ?lC_InvalidPeriod ?sa_InvalidPeriod ?ga_InvalidPeriod ?gg_InvalidPeriod ?nf_InvalidPeriod ?iC_InvalidPeriod ?tC_InvalidPeriod ?kC_InvalidPeriod ?eC_InvalidPeriod ?vC_InvalidPeriod ?yC_InvalidPeriod ?hC_InvalidPeriod ?mC_InvalidPeriod ?oq_InvalidPeriod ?sG_InvalidPeriod ?lI_InvalidPeriod ?cI_InvalidPeriod ?lD_InvalidPeriod ?lE_InvalidPeriod ?sI_InvalidPeriod ?vD_InvalidPeriod ?fl_InvalidPeriod rfl ?rb_InvalidPeriod (fun _ _ _ _ => ⟨_, rfl⟩) (fun s qual ps dV kV doc pm an cda ct cc us hp hu => match ps, hp, us, hu with | [_, _], _, [_, _], _ => .of_eq rfl) (fun _ _ _ _ => rfl) (Ct.scpOk1 rfl rfl rfl rfl rfl); (case gC_InvalidPeriod => k_is); (case lC_InvalidPeriod => k_is); (case sa_InvalidPeriod => k_is); (case ga_InvalidPeriod => k_is); (case gg_InvalidPeriod => k_is); (case nf_InvalidPeriod => k_is); (case iC_InvalidPeriod => k_is); (case tC_InvalidPeriod => k_is); (case kC_InvalidPeriod => k_is); (case eC_InvalidPeriod => k_is); (case vC_InvalidPeriod => k_is); (case yC_InvalidPeriod => k_is); (case hC_InvalidPeriod => k_is); (case mC_InvalidPeriod => k_is); (case oq_InvalidPeriod => k_is); (case sG_InvalidPeriod => k_is); (case lI_InvalidPeriod => k_is); (case cI_InvalidPeriod => k_is); (case lD_InvalidPeriod => k_is); (case lE_InvalidPeriod => k_is); (case sI_InvalidPeriod => ks_is); (case vD_InvalidPeriod => rfl); (case fl_InvalidPeriod => first | rfl | decide +kernel); (case rb_InvalidPeriod => first | rfl | decide +kernel))
    (case x_SetupAboveCap => refine' Ct.mk_exF1 (msg := "setup cost above the cap") (j := 0) (p0 := ⟨12, 8, 12, 13⟩) (p1 := ⟨12, 8, 12, 15⟩) (p2 := ⟨12, 8, 12, 24⟩) (p3 := ⟨12, 25, 12, 51⟩) (p4 := ⟨12, 8, 12, 52⟩) (p5 := ⟨12, 8, 12, 52⟩) (q1 := ⟨13, 8, 13, 12⟩) (q2 := ⟨13, 8, 13, 18⟩) (q3 := ⟨13, 21, 13, 26⟩) (q4 := ⟨13, 8, 13, 26⟩) (s1 := ⟨11, 17, 11, 21⟩) (s2 := ⟨11, 23, 11, 28⟩) KX G ?gC_SetupAboveCap ?lC_SetupAboveCap ?sa_SetupAboveCap ?ga_SetupAboveCap ?gg_SetupAboveCap ?nf_SetupAboveCap ?iC_SetupAboveCap ?tC_SetupAboveCap ?kC_SetupAboveCap ?eC_SetupAboveCap ?vC_SetupAboveCap ?yC_SetupAboveCap ?hC_SetupAboveCap ?mC_SetupAboveCap ?oq_SetupAboveCap ?sG_SetupAboveCap ?lI_SetupAboveCap ?cI_SetupAboveCap ?lD_SetupAboveCap ?lE_SetupAboveCap ?sI_SetupAboveCap ?vD_SetupAboveCap ?fl_SetupAboveCap rfl ?rb_SetupAboveCap (fun _ _ _ _ => ⟨_, rfl⟩) (fun s qual ps dV kV doc pm an cda ct cc us hp hu => match ps, hp, us, hu with | [_, _], _, [_, _], _ => .of_eq rfl) (fun _ _ _ _ => rfl) (Ct.scpOk1 rfl rfl rfl rfl rfl); (case gC_SetupAboveCap => k_is); (case lC_SetupAboveCap => k_is); (case sa_SetupAboveCap => k_is); (case ga_SetupAboveCap => k_is); (case gg_SetupAboveCap => k_is); (case nf_SetupAboveCap => k_is); (case iC_SetupAboveCap => k_is); (case tC_SetupAboveCap => k_is); (case kC_SetupAboveCap => k_is); (case eC_SetupAboveCap => k_is); (case vC_SetupAboveCap => k_is); (case yC_SetupAboveCap => k_is); (case hC_SetupAboveCap => k_is); (case mC_SetupAboveCap => k_is); (case oq_SetupAboveCap => k_is); (case sG_SetupAboveCap => k_is); (case lI_SetupAboveCap => k_is); (case cI_SetupAboveCap => k_is); (case lD_SetupAboveCap => k_is); (case lE_SetupAboveCap => k_is); (case sI_SetupAboveCap => ks_is); (case vD_SetupAboveCap => rfl); (case fl_SetupAboveCap => first | rfl | decide +kernel); (case rb_SetupAboveCap => first | rfl | decide +kernel))
    (case q_NoPeriods => first | kernel_rfl | rfl | decide +kernel)
    (case kp_NoPeriods => k_is)
    (case sb_NoPeriods => k_is)
    (case ty_NoPeriods => k_is)
    (case q_InvalidEnding => first | kernel_rfl | rfl | decide +kernel)
    (case kp_InvalidEnding => k_is)
    (case sb_InvalidEnding => k_is)
    (case ty_InvalidEnding => k_is)
    (case nC => k_is)
    (case cl1 => k_is)
    (case cl2 => k_is)
    (case cl3 => k_is)
    (case cl4 => k_is)
    (case na_periods => k_is)
    (case na_size => k_is)
    (case na_floor => k_is)
    (case na_pieces => k_is)
    (case mk1 => k_is)
    (case mk4 => k_is)
    (case fi_Profile_init => k_is)
    (case fn_Profile_init => k_is)
    (case fi_Profile_initJ => k_is)
    (case fn_Profile_initJ => k_is)
    (case fi_Profile_call => k_is)
    (case fn_Profile_call => k_is)
    (case fx_Profile_call => k_is)
    (case fi_Profile_iter => k_is)
    (case fn_Profile_iter => k_is)
    (case nolen => k_is)
    (case nohint => k_is)
    (case fi_Profile_then => k_is)
    (case fn_Profile_then => k_is)
    (case n_check_periods => k_is)
    (case l_check_periods => k_is)
    (case c_check_periods => k_is)
    (case k_check_periods => k_is)
    (case d_check_periods => k_is)
    (case n_last_costs => k_is)
    (case l_last_costs => k_is)
    (case c_last_costs => k_is)
    (case k_last_costs => k_is)
    (case n_least_costs => k_is)
    (case l_least_costs => k_is)
    (case c_least_costs => k_is)
    (case k_least_costs => k_is)
    (case n_check_ending => k_is)
    (case l_check_ending => k_is)
    (case c_check_ending => k_is)
    (case k_check_ending => k_is)
    (case n_least_cost => k_is)
    (case l_least_cost => k_is)
    (case c_least_cost => k_is)
    (case k_least_cost => k_is)
    (case d_least_cost => k_is)
    (case n_cost_lines => k_is)
    (case l_cost_lines => k_is)
    (case c_cost_lines => k_is)
    (case k_cost_lines => k_is)
    (case n_best_ranges => k_is)
    (case l_best_ranges => k_is)
    (case c_best_ranges => k_is)
    (case k_best_ranges => k_is)
    (case n_profile_pieces => k_is)
    (case l_profile_pieces => k_is)
    (case c_profile_pieces => k_is)
    (case k_profile_pieces => k_is)
    (case n_profile_pieces__o => k_is)
    (case l_profile_pieces__o => k_is)
    (case c_profile_pieces__o => k_is)
    (case k_profile_pieces__o => k_is)
    (case n_law_cell => k_is)
    (case l_law_cell => k_is)
    (case c_law_cell => k_is)
    (case k_law_cell => k_is)
    (case n_law_number => k_is)
    (case l_law_number => k_is)
    (case c_law_number => k_is)
    (case k_law_number => k_is)
    (case n_law_period => k_is)
    (case l_law_period => k_is)
    (case c_law_period => k_is)
    (case k_law_period => k_is)
    (case n_law_periods => k_is)
    (case l_law_periods => k_is)
    (case c_law_periods => k_is)
    (case k_law_periods => k_is)
    (case n_law_shape => k_is)
    (case l_law_shape => k_is)
    (case c_law_shape => k_is)
    (case k_law_shape => k_is)
    (case n_law_grown => k_is)
    (case l_law_grown => k_is)
    (case c_law_grown => k_is)
    (case k_law_grown => k_is)
    (case n_law_costs => k_is)
    (case l_law_costs => k_is)
    (case c_law_costs => k_is)
    (case k_law_costs => k_is)
    (case n_law_high => k_is)
    (case l_law_high => k_is)
    (case c_law_high => k_is)
    (case k_law_high => k_is)
    (case n_law_least => k_is)
    (case l_law_least => k_is)
    (case c_law_least => k_is)
    (case k_law_least => k_is)
    (case n_law_same => k_is)
    (case l_law_same => k_is)
    (case c_law_same => k_is)
    (case k_law_same => k_is)
    (case n_law_lines => k_is)
    (case l_law_lines => k_is)
    (case c_law_lines => k_is)
    (case k_law_lines => k_is)
    (case n_law_pieces => k_is)
    (case l_law_pieces => k_is)
    (case c_law_pieces => k_is)
    (case k_law_pieces => k_is)
    (case n_law_asked => k_is)
    (case l_law_asked => k_is)
    (case c_law_asked => k_is)
    (case k_law_asked => k_is)
    (case n_law_due => k_is)
    (case l_law_due => k_is)
    (case c_law_due => k_is)
    (case k_law_due => k_is)
    (case n_law_is => k_is)
    (case l_law_is => k_is)
    (case c_law_is => k_is)
    (case k_law_is => k_is)
    (case n_law_then => k_is)
    (case l_law_then => k_is)
    (case c_law_then => k_is)
    (case k_law_then => k_is)
    (case n_law_change => k_is)
    (case l_law_change => k_is)
    (case c_law_change => k_is)
    (case k_law_change => k_is)
    (case n_law => k_is)
    (case l_law => k_is)
    (case c_law => k_is)
    (case k_law => k_is)
    (case l_Profile_init => k_is)
    (case c_Profile_init => k_is)
    (case k_Profile_init => k_is)
    (case l_Profile_initJ => k_is)
    (case c_Profile_initJ => k_is)
    (case k_Profile_initJ => k_is)
    (case l_Profile_call => k_is)
    (case c_Profile_call => k_is)
    (case k_Profile_call => k_is)
    (case l_Profile_iter => k_is)
    (case c_Profile_iter => k_is)
    (case k_Profile_iter => k_is)
    (case l_Profile_then => k_is)
    (case c_Profile_then => k_is)
    (case k_Profile_then => k_is)



