import PyProof.Rows.All
import Wide.All
import OpenK.AllK
import Wide.FinOn
import HandS.ForMost
import HandS.ExcInit
import HandS.ForExc
import HandS.CallSlots
import HandS.IsInst
import HandS.TupAny
import HandS.Wide
import HandS.Flow
import HandS.DictComp
import KE.KEqNest
import KE.DataCmp
import KE.DataEq
import KE.DataAny
import KE.DataMinMax
import KE.SortData
import PyProof.ReprRoads
import HandS.HeadHook3
import HandS.More
import HandS.TupSets
import HandS.Dict
import PyProof.StrLawsRepr
import KE.KExcSuper
import KE.KExcIs
import HandS.ExcField
import HandS.ExcIs
import HandS.ExcValue
import PySem.Challenge.RW_unaskedways_k10_errors_apart
set_option Elab.async false
set_option linter.all false
set_option maxRecDepth 100000
set_option autoImplicit false
namespace Bx
open PySem PySem.Spec PyProof.Rows L2

/-- a value: what does not change stands as a tree; what may change by its number -/
inductive D where
  | non
  | bl (b : Bool)
  | int (i : Int)
  | str (x : Str)
  | tup (ds : List D)
  | lst (ds : List D)
  | dct (kds : List (Key × D))
  | obj (c : Str) (fds : List (Str × D))
  | exn (c : Str) (ds : List D)
  | ref (n : Nat)
  | scr (ns : List Int)
  | val (v : V)
  deriving Inhabited

/-- an object that may change -/
inductive O where
  | lst (ds : List D)
  | dct (kds : List (Key × D))
  | ins (c : Str) (fds : List (Str × D))
  | gone
  deriving Inhabited

abbrev Hh := List O
abbrev Rho := List (Option D)

/-- how a step ends -/
inductive Res (α : Type) where
  | ok (a : α) (h : Hh)
  | exc (c : Str) (ds : List D) (h : Hh)
  | bad

namespace Res
variable {α β : Type}
def bind (r : Res α) (f : α → Hh → Res β) : Res β := match r with
  | .ok a h => f a h
  | .exc c ds h => .exc c ds h
  | .bad => .bad
@[simp] theorem bind_ok (a : α) (h : Hh) (f : α → Hh → Res β) : (Res.ok a h).bind f = f a h := rfl
@[simp] theorem bind_exc (c : Str) (ds : List D) (h : Hh) (f : α → Hh → Res β) : (Res.exc c ds h : Res α).bind f = .exc c ds h := rfl
@[simp] theorem bind_bad (f : α → Hh → Res β) : (Res.bad : Res α).bind f = .bad := rfl
end Res

/-- where things stand: m, the addresses of the objects by number; F, the addresses of what no longer changes; P, what is held as it is for a while -/
structure Wd where
  m : List Addr
  F : Addr → Prop
  P : List (Addr × HO)

def Wd.frz (w : Wd) (a : Addr) : Wd := ⟨w.m, fun b => b = a ∨ w.F b, w.P⟩
def Wd.new (w : Wd) (a : Addr) : Wd := ⟨w.m ++ [a], w.F, w.P⟩
def Wd.cut (w : Wd) (n : Nat) : Wd := ⟨w.m.take n, w.F, w.P⟩
def Wd.hold (w : Wd) (a : Addr) (o : HO) : Wd := ⟨w.m, w.F, (a, o) :: w.P⟩

/-- what does not change at all: the written part, the module's names -/
structure Gx where
  K : PySem.W.Frag
  mg : Str → Option Value

/-- the script stands at a: known to its object, or one of the written part's own -/
def ScrAt (mg : Gx) (H : Hp) (a : Addr) (ns : List Int) : Prop := (∃ o : Obj, H a = some (.frz o (.lst (ns.map V.int)))) ∨
  ∃ (o : Obj) (its : Array Value) (n : Nat), mg.K.lookup a = some o ∧ o.cls = .type "list" ∧ o.dict = none ∧ o.data = .seq its n ∧ its.size ≤ sizeLine ∧ Vals (ns.map V.int) its.toList
theorem ScrAt.sq {mg : Gx} {H : Hp} {a : Addr} {ns : List Int} (s : ScrAt mg H a ns) : SqL mg.K H a (ns.map V.int) := by
  rcases s with ⟨o, h⟩ | h
  · exact .inl (.inr ⟨o, h⟩)
  · exact .inr h
/-- the one field of an error, by the class's name -/
def fldOf (c : Str) : Str := if c = "Wrong" then "place" else if c = "TooMany" then "most" else if c = "NoName" then "name" else if c = "Twice" then "label" else if c = "Idle" then "label" else if c = "BadEquality" then "index"
  else if c = "NoLabel" then "label" else if c = "NoEquality" then "index" else if c = "Ring" then "row" else if c = "NoPlace" then "index" else if c = "NoState" then "state" else "line"
/-- an exception held as a value -/
def ExAt (w : Wd) (H : Hp) (a C : Addr) (fs : List (Str × V)) : Prop := w.F a ∧ ((fs = [] ∧ H a = some (exo a C none)) ∨ ∃ d, H a = some (exo a C (some d)) ∧ w.F d ∧ H d = some (exd d fs))
/-- what stays as it is, once it is frozen -/
def Kp : HO → Prop
  | .ins _ _ _ => True
  | .ext _ => True
  | _ => False
section
variable (mg : Gx) (w : Wd) (H : Hp)
mutual
inductive RV : D → V → Prop
  | non : RV .non .non
  | bl (b : Bool) : RV (.bl b) (.bl b)
  | int (i : Int) : RV (.int i) (.int i)
  | str (x : Str) : RV (.str x) (.str x)
  | tup {a : Addr} {vs : List V} {ds : List D} : H a = some (.tup vs) → RVs ds vs → RV (.tup ds) (.ref a)
  | lst {a : Addr} {vs : List V} {ds : List D} : H a = some (.lst vs) → w.F a → RVs ds vs → RV (.lst ds) (.ref a)
  | dct {a : Addr} {o : Obj} {kvs : List (Key × V)} {kds : List (Key × D)} : H a = some (.frz o (.dK kvs)) → kvs.map (·.1) = kds.map (·.1) → RVs (kds.map (·.2)) (kvs.map (·.2)) → RV (.dct kds) (.ref a)
  | obj {a C dx : Addr} {c : Str} {fs : List (Str × V)} {fds : List (Str × D)} : H a = some (.ins C dx fs) → w.F a → mg.mg c = some (.ref C) → fs.map (·.1) = fds.map (·.1) → RVs (fds.map (·.2)) (fs.map (·.2)) → RV (.obj c fds) (.ref a)
  | exn {a C : Addr} {c : Str} {fs : List (Str × V)} {ds : List D} : ExAt w H a C fs → mg.mg c = some (.ref C) → fs.map (·.1) = ds.map (fun _ => fldOf c) → RVs ds (fs.map (·.2)) → RV (.exn c ds) (.ref a)
  | ref {n : Nat} {a : Addr} : w.m[n]? = some a → RV (.ref n) (.ref a)
  | scr {a : Addr} {ns : List Int} : ScrAt mg H a ns → RV (.scr ns) (.ref a)
  | val (v : V) : RV (.val v) v
inductive RVs : List D → List V → Prop
  | nil : RVs [] []
  | cons {d : D} {v : V} {ds : List D} {vs : List V} : RV d v → RVs ds vs → RVs (d :: ds) (v :: vs)
end
end

section
variable {mg : Gx} {w w' w'' : Wd} {H H' H'' : Hp}

theorem RVs.length : ∀ {ds : List D} {vs : List V}, RVs mg w H ds vs → ds.length = vs.length
  | _, _, .nil => rfl
  | _, _, .cons _ t => by rw [List.length_cons, List.length_cons, RVs.length t]
theorem RVs.get : ∀ {ds : List D} {vs : List V} {i : Nat} {d : D}, RVs mg w H ds vs → ds[i]? = some d → ∃ v, vs[i]? = some v ∧ RV mg w H d v
  | _, _, _, _, .nil, e => by simp at e
  | _, _, 0, _, .cons r _, e => by simp at e; subst e; exact ⟨_, rfl, r⟩
  | _, _, i + 1, d, .cons _ t, e => by
    obtain ⟨v, h1, h2⟩ := RVs.get (i := i) (d := d) t (by simpa using e)
    exact ⟨v, by simpa using h1, h2⟩
theorem RVs.getV : ∀ {ds : List D} {vs : List V} {i : Nat} {v : V}, RVs mg w H ds vs → vs[i]? = some v → ∃ d, ds[i]? = some d ∧ RV mg w H d v
  | _, _, _, _, .nil, e => by simp at e
  | _, _, 0, _, .cons r _, e => by simp at e; subst e; exact ⟨_, rfl, r⟩
  | _, _, i + 1, v, .cons _ t, e => by
    obtain ⟨d, h1, h2⟩ := RVs.getV (i := i) (v := v) t (by simpa using e)
    exact ⟨d, by simpa using h1, h2⟩
theorem RVs.append : ∀ {ds es : List D} {vs us : List V}, RVs mg w H ds vs → RVs mg w H es us → RVs mg w H (ds ++ es) (vs ++ us)
  | _, _, _, _, .nil, s => s
  | _, _, _, _, .cons r t, s => .cons r (RVs.append t s)
theorem RVs.take : ∀ {ds : List D} {vs : List V} (n : Nat), RVs mg w H ds vs → RVs mg w H (ds.take n) (vs.take n)
  | _, _, 0, _ => .nil
  | _, _, _ + 1, .nil => .nil
  | _, _, n + 1, .cons r t => .cons r (RVs.take n t)
theorem RVs.drop : ∀ {ds : List D} {vs : List V} (n : Nat), RVs mg w H ds vs → RVs mg w H (ds.drop n) (vs.drop n)
  | _, _, 0, r => r
  | _, _, _ + 1, .nil => .nil
  | _, _, n + 1, .cons _ t => RVs.drop n t
theorem RVs.set : ∀ {ds : List D} {vs : List V} {d : D} {v : V} (i : Nat), RVs mg w H ds vs → RV mg w H d v → RVs mg w H (ds.set i d) (vs.set i v)
  | _, _, _, _, _, .nil, _ => .nil
  | _, _, _, _, 0, .cons _ t, r => .cons r t
  | _, _, _, _, i + 1, .cons q t, r => .cons q (RVs.set i t r)
theorem RVs.reverse : ∀ {ds : List D} {vs : List V}, RVs mg w H ds vs → RVs mg w H ds.reverse vs.reverse
  | _, _, .nil => .nil
  | _, _, .cons r t => by
    rw [List.reverse_cons, List.reverse_cons]
    exact RVs.append (RVs.reverse t) (.cons r .nil)
theorem RVs.one {d : D} {v : V} (r : RV mg w H d v) : RVs mg w H [d] [v] := .cons r .nil

/-- what was known stays -/
structure Lv (w : Wd) (H : Hp) (w' : Wd) (H' : Hp) : Prop where
  frz : ∀ a, w.F a → w'.F a
  rd : ∀ a u, w.F a → Rd H a u → Rd H' a u
  lst : ∀ a xs, w.F a → H a = some (.lst xs) → H' a = some (.lst xs)
  sf : ∀ a o u, H a = some (.frz o u) → H' a = some (.frz o u)
  ins : ∀ a o, Kp o → w.F a → H a = some o → H' a = some o
  tup : ∀ a xs, H a = some (.tup xs) → H' a = some (.tup xs)
  ext : ∃ x, w'.m = w.m ++ x
structure Later (w : Wd) (H : Hp) (w' : Wd) (H' : Hp) : Prop extends Lv w H w' H' where
  pr : w'.P = w.P
theorem Later.refl (w : Wd) (H : Hp) : Later w H w H := ⟨⟨fun _ h => h, fun _ _ _ h => h, fun _ _ _ h => h, fun _ _ _ h => h, fun _ _ _ _ h => h, fun _ _ h => h, ⟨[], by simp⟩⟩, rfl⟩
theorem Later.trans (a : Later w H w' H') (b : Later w' H' w'' H'') : Later w H w'' H'' := by
  obtain ⟨x, ex⟩ := a.ext
  obtain ⟨y, ey⟩ := b.ext
  exact ⟨⟨fun c h => b.frz c (a.frz c h), fun c u h r => b.rd c u (a.frz c h) (a.rd c u h r), fun c u h r => b.lst c u (a.frz c h) (a.lst c u h r), fun c o u h => b.sf c o u (a.sf c o u h), fun c o k h r => b.ins c o k (a.frz c h) (a.ins c o k h r), fun c xs h => b.tup c xs (a.tup c xs h), ⟨x ++ y, by rw [ey, ex, List.append_assoc]⟩⟩, b.pr.trans a.pr⟩
theorem Lv.at (l : Lv w H w' H') {n : Nat} {a : Addr} (h : w.m[n]? = some a) : w'.m[n]? = some a := by
  obtain ⟨x, e⟩ := l.ext
  rw [e, List.getElem?_append_left (List.getElem?_eq_some_iff.mp h).1]
  exact h
theorem ExAt.mono {a C : Addr} {fs : List (Str × V)} (l : Lv w H w' H') (e : ExAt w H a C fs) : ExAt w' H' a C fs := by
  obtain ⟨f, e⟩ := e
  refine ⟨l.frz _ f, ?_⟩
  rcases e with ⟨e1, e2⟩ | ⟨d, e1, fd, e2⟩
  · exact .inl ⟨e1, l.ins _ _ True.intro f e2⟩
  · exact .inr ⟨d, l.ins _ _ True.intro f e1, l.frz _ fd, l.ins _ _ True.intro fd e2⟩
mutual
theorem RV.mono0 (l : Lv w H w' H') : ∀ {d : D} {v : V}, RV mg w H d v → RV mg w' H' d v
  | _, _, .non => .non
  | _, _, .bl b => .bl b
  | _, _, .int i => .int i
  | _, _, .str x => .str x
  | _, _, .tup h t => .tup (l.tup _ _ h) (RVs.mono0 l t)
  | _, _, .lst h f t => .lst (l.lst _ _ f h) (l.frz _ f) (RVs.mono0 l t)
  | _, _, .dct h e t => .dct (l.sf _ _ _ h) e (RVs.mono0 l t)
  | _, _, .obj h f c e t => .obj (l.ins _ _ True.intro f h) (l.frz _ f) c e (RVs.mono0 l t)
  | _, _, .exn h c e t => .exn (h.mono l) c e (RVs.mono0 l t)
  | _, _, .ref h => .ref (l.at h)
  | _, _, .scr h => .scr (h.imp (fun ⟨o, z⟩ => ⟨o, l.sf _ _ _ z⟩) id)
  | _, _, .val v => .val v
theorem RVs.mono0 (l : Lv w H w' H') : ∀ {ds : List D} {vs : List V}, RVs mg w H ds vs → RVs mg w' H' ds vs
  | _, _, .nil => .nil
  | _, _, .cons r t => .cons (RV.mono0 l r) (RVs.mono0 l t)
end
theorem RV.mono (l : Later w H w' H') {d : D} {v : V} (r : RV mg w H d v) : RV mg w' H' d v := r.mono0 l.toLv
theorem RVs.mono (l : Later w H w' H') {ds : List D} {vs : List V} (r : RVs mg w H ds vs) : RVs mg w' H' ds vs := r.mono0 l.toLv
end

/-- an object by number stands at a -/
def OR (mg : Gx) (w : Wd) (H : Hp) (a : Addr) : O → Prop
  | .lst ds => ¬ w.F a ∧ ∃ vs, H a = some (.lst vs) ∧ RVs mg w H ds vs
  | .dct kds => ¬ w.F a ∧ ∃ kvs : List (Key × V), H a = some (.dK kvs) ∧ kvs.map (·.1) = kds.map (·.1) ∧ RVs mg w H (kds.map (·.2)) (kvs.map (·.2))
  | .ins c fds => ¬ w.F a ∧ ∃ (C dx : Addr) (fs : List (Str × V)), H a = some (.ins C dx fs) ∧ mg.mg c = some (.ref C) ∧ fs.map (·.1) = fds.map (·.1) ∧ RVs mg w H (fds.map (·.2)) (fs.map (·.2))
  | .gone => w.F a

structure HR (mg : Gx) (w : Wd) (h : Hh) (H : Hp) : Prop where
  len : w.m.length = h.length
  nd : w.m.Nodup
  fz : ∀ a, w.F a → ∃ u, H a = some u
  ob : ∀ (i : Nat) (o : O) (a : Addr), h[i]? = some o → w.m[i]? = some a → OR mg w H a o
  pr : ∀ p ∈ w.P, H p.1 = some p.2 ∧ ¬ w.F p.1 ∧ p.1 ∉ w.m

/-- the slots -/
def RS (mg : Gx) (w : Wd) (H : Hp) (ρ : Rho) (σ : L2.St) : Prop := ∀ (i : Nat) (d : D), ρ[i]? = some (some d) → ∃ v, σ[i]? = some (some v) ∧ RV mg w H d v

structure SR (mg : Gx) (w : Wd) (ρ : Rho) (h : Hh) (σ : L2.St) (H : Hp) : Prop where
  hr : HR mg w h H
  rs : RS mg w H ρ σ
  ln : ρ.length = σ.length

section
variable {mg : Gx} {w w' w'' : Wd} {H H' H'' : Hp} {h h' : Hh} {ρ : Rho} {σ : L2.St}
theorem RS.mono (l : Later w H w' H') (r : RS mg w H ρ σ) : RS mg w' H' ρ σ := fun i d e => by
  obtain ⟨v, e1, r1⟩ := r i d e
  exact ⟨v, e1, r1.mono l⟩
theorem SR.step (s : SR mg w ρ h σ H) (l : Later w H w' H') (q : HR mg w' h' H') : SR mg w' ρ h' σ H' := ⟨q, s.rs.mono l, s.ln⟩
theorem SR.set (s : SR mg w ρ h σ H) {d : D} {v : V} (r : RV mg w H d v) (i : Nat) : SR mg w (ρ.set i (some d)) h (σ.set i (some v)) H := ⟨s.hr, fun j e hj => by
  by_cases c : i = j
  · subst c
    by_cases hi : i < ρ.length
    · rw [List.getElem?_set_self hi] at hj
      cases hj
      exact ⟨v, List.getElem?_set_self (by rw [← s.ln]; exact hi), r⟩
    · rw [List.getElem?_eq_none (by rw [List.length_set]; omega)] at hj
      cases hj
  · rw [List.getElem?_set_ne c] at hj
    obtain ⟨u, e1, r1⟩ := s.rs j e hj
    exact ⟨u, by rw [List.getElem?_set_ne c]; exact e1, r1⟩, by rw [List.length_set, List.length_set, s.ln]⟩
theorem SR.wipe (s : SR mg w ρ h σ H) (i : Nat) : SR mg w (ρ.set i none) h (σ.set i none) H := ⟨s.hr, fun j e hj => by
  by_cases c : i = j
  · subst c
    by_cases hi : i < ρ.length
    · rw [List.getElem?_set_self hi] at hj
      cases hj
    · rw [List.getElem?_eq_none (by rw [List.length_set]; omega)] at hj
      cases hj
  · rw [List.getElem?_set_ne c] at hj
    obtain ⟨u, e1, r1⟩ := s.rs j e hj
    exact ⟨u, by rw [List.getElem?_set_ne c]; exact e1, r1⟩, by rw [List.length_set, List.length_set, s.ln]⟩

theorem HR.nF (q : HR mg w h H) {p : Addr} (hp : H p = none) : ¬ w.F p := fun z => by
  obtain ⟨u, e⟩ := q.fz p z
  rw [hp] at e
  cases e
theorem OR.some {a : Addr} {o : O} (q : HR mg w h H) (r : OR mg w H a o) : ∃ u, H a = some u := by
  cases o with
  | lst ds => obtain ⟨_, vs, e, _⟩ := r; exact ⟨_, e⟩
  | dct kds => obtain ⟨_, vs, e, _⟩ := r; exact ⟨_, e⟩
  | ins c fds => obtain ⟨_, C, dx, fs, e, _⟩ := r; exact ⟨_, e⟩
  | gone => exact q.fz a r
theorem HR.nm (q : HR mg w h H) {p : Addr} (hp : H p = none) : p ∉ w.m := fun hm => by
  obtain ⟨i, hi, e⟩ := List.getElem_of_mem hm
  have hi' : i < h.length := by rw [← q.len]; exact hi
  obtain ⟨u, e'⟩ := (q.ob i h[i] p (List.getElem?_eq_getElem hi') (by rw [List.getElem?_eq_getElem hi, e])).some q
  rw [hp] at e'
  cases e'
theorem Rd.some {a : Addr} {u : HO} (r : Rd H a u) : ∃ x, H a = some x := by
  rcases r with r | ⟨o, r⟩
  · exact ⟨_, r⟩
  · exact ⟨_, r⟩
theorem Rd.upd {a p : Addr} {u o : HO} (r : Rd H a u) (hne : a ≠ p) : Rd (upd H p o) a u := by
  rcases r with r | ⟨x, r⟩
  · exact .inl (by rw [upd_ne hne]; exact r)
  · exact .inr ⟨x, by rw [upd_ne hne]; exact r⟩
theorem OR.mono0 {a : Addr} {o : O} (l : Lv w H w' H') (hF : w'.F a ↔ w.F a) (hH : H' a = H a ∨ (o = .gone)) (r : OR mg w H a o) : OR mg w' H' a o := by
  cases o with
  | lst ds => obtain ⟨n, vs, e, t⟩ := r; exact ⟨fun z => n (hF.mp z), vs, (hH.resolve_right (fun z => by cases z)).trans e, t.mono0 l⟩
  | dct kds => obtain ⟨n, vs, e, e', t⟩ := r; exact ⟨fun z => n (hF.mp z), vs, (hH.resolve_right (fun z => by cases z)).trans e, e', t.mono0 l⟩
  | ins c fds => obtain ⟨n, C, dx, fs, e, e1, e2, t⟩ := r; exact ⟨fun z => n (hF.mp z), C, dx, fs, (hH.resolve_right (fun z => by cases z)).trans e, e1, e2, t.mono0 l⟩
  | gone => exact hF.mpr r
theorem OR.mono {a : Addr} {o : O} (l : Later w H w' H') (hF : w'.F a ↔ w.F a) (hH : H' a = H a ∨ (o = .gone)) (r : OR mg w H a o) : OR mg w' H' a o := r.mono0 l.toLv hF hH
/-- the heap has a new object that nobody knows by number; it is frozen -/
theorem later_new (q : HR mg w h H) {p : Addr} {o : HO} (hp : H p = none) : Later w H w (upd H p o) :=
  ⟨⟨fun _ z => z, fun a u _ r => Rd.upd r (by obtain ⟨x, e⟩ := Rd.some r; exact ne_of_none e hp), fun a u _ r => by rw [upd_ne (ne_of_none r hp)]; exact r, fun a o u r => by rw [upd_ne (ne_of_none r hp)]; exact r, fun a o' _ _ r => by rw [upd_ne (ne_of_none r hp)]; exact r, fun a xs r => by rw [upd_ne (ne_of_none r hp)]; exact r, ⟨[], by simp⟩⟩, rfl⟩
theorem hr_new (q : HR mg w h H) {p : Addr} {o : HO} (hp : H p = none) : HR mg w h (upd H p o) :=
  ⟨q.len, q.nd, fun a z => by obtain ⟨u, e⟩ := q.fz a z; exact ⟨u, by rw [upd_ne (ne_of_none e hp)]; exact e⟩, fun i ob a e1 e2 => by
    have r := q.ob i ob a e1 e2
    obtain ⟨u, e⟩ := r.some q
    exact r.mono (later_new q hp) Iff.rfl (.inl (upd_ne (ne_of_none e hp))), fun p hm => by
    obtain ⟨e1, e2, e3⟩ := q.pr p hm
    exact ⟨by rw [upd_ne (ne_of_none e1 hp)]; exact e1, e2, e3⟩⟩
theorem later_frz (q : HR mg w h H) {p : Addr} : Later w H (w.frz p) H :=
  ⟨⟨fun _ z => .inr z, fun _ _ _ r => r, fun _ _ _ r => r, fun _ _ _ r => r, fun _ _ _ _ r => r, fun _ _ r => r, ⟨[], by simp [Wd.frz]⟩⟩, rfl⟩
theorem hr_frz (q : HR mg w h H) {p : Addr} (hm : p ∉ w.m) (hs : ∃ u, H p = some u) (hP : ∀ x ∈ w.P, x.1 ≠ p) : HR mg (w.frz p) h H :=
  ⟨q.len, q.nd, fun a z => by rcases z with rfl | z; exact hs; exact q.fz a z, fun i ob a e1 e2 => by
    have hne : a ≠ p := fun z => hm (z ▸ List.mem_of_getElem? e2)
    exact (q.ob i ob a e1 e2).mono (later_frz q) ⟨fun z => z.resolve_left hne, .inr⟩ (.inl rfl), fun x hx => by
    obtain ⟨e1, e2, e3⟩ := q.pr x hx
    exact ⟨e1, fun z => z.elim (hP x hx) e2, e3⟩⟩
theorem HR.np (q : HR mg w h H) {p : Addr} (hp : H p = none) : ∀ x ∈ w.P, x.1 ≠ p := fun x hx => ne_of_none (q.pr x hx).1 hp
/-- a new thing at p, frozen at once -/
theorem later_lay (q : HR mg w h H) {p : Addr} {o : HO} (hp : H p = none) : Later w H (w.frz p) (upd H p o) :=
  (later_new q hp).trans (later_frz (hr_new q hp))
theorem hr_lay (q : HR mg w h H) {p : Addr} {o : HO} (hp : H p = none) : HR mg (w.frz p) h (upd H p o) :=
  hr_frz (hr_new q hp) (q.nm hp) ⟨o, upd_same⟩ (q.np hp)
/-- a new thing at p by the next number -/
theorem later_add (q : HR mg w h H) {p : Addr} {o : HO} (hp : H p = none) : Later w H (w.new p) (upd H p o) := by
  have l := later_new q (o := o) hp
  exact ⟨⟨l.frz, l.rd, l.lst, l.sf, l.ins, l.tup, ⟨[p], rfl⟩⟩, rfl⟩
theorem hr_add (q : HR mg w h H) {p : Addr} {o : HO} {ob : O} (hp : H p = none) (hob : OR mg (w.new p) (upd H p o) p ob) : HR mg (w.new p) (h ++ [ob]) (upd H p o) := by
  have l := later_add q (o := o) hp
  refine ⟨by simp [Wd.new, q.len], ?_, fun a z => ?_, fun i o1 a e1 e2 => ?_, fun x hx => ?_⟩
  · show (w.m ++ [p]).Nodup
    rw [List.nodup_append]
    refine ⟨q.nd, by simp, fun a ha b hb => ?_⟩
    have : b = p := by simpa using hb
    subst this
    exact fun z => q.nm hp (z ▸ ha)
  · obtain ⟨u, e⟩ := q.fz a z
    exact ⟨u, by rw [upd_ne (ne_of_none e hp)]; exact e⟩
  · by_cases hi : i < h.length
    · rw [List.getElem?_append_left hi] at e1
      have e2' : w.m[i]? = some a := by
        have e2 : (w.m ++ [p])[i]? = some a := e2
        rw [List.getElem?_append_left (by rw [q.len]; exact hi)] at e2
        exact e2
      have r := q.ob i o1 a e1 e2'
      obtain ⟨u, e⟩ := r.some q
      exact r.mono l Iff.rfl (.inl (upd_ne (ne_of_none e hp)))
    · have hi' : i = h.length := by
        have := (List.getElem?_eq_some_iff.mp e1).1
        simp at this
        omega
      subst hi'
      rw [List.getElem?_append_right (Nat.le_refl _)] at e1
      simp at e1
      have e2 : (w.m ++ [p])[h.length]? = some a := e2
      rw [← q.len, List.getElem?_append_right (Nat.le_refl _)] at e2
      simp at e2
      subst e1 e2
      exact hob
  · obtain ⟨e1, e2, e3⟩ := q.pr x hx
    refine ⟨by rw [upd_ne (ne_of_none e1 hp)]; exact e1, e2, fun z => ?_⟩
    rcases List.mem_append.mp (show x.1 ∈ w.m ++ [p] from z) with z | z
    · exact e3 z
    · exact ne_of_none e1 hp (by simpa using z)
/-- the object number n changes -/
theorem later_put (q : HR mg w h H) {n : Nat} {a : Addr} {ho : HO} {o o' : O} (hn : h[n]? = some o) (ha : w.m[n]? = some a) (hF : ¬ w.F a) (hm : Mut (H a)) : Later w H w (upd H a ho) := by
  refine ⟨⟨fun _ z => z, fun b u f r => Rd.upd r (fun z => hF (z ▸ f)), fun b u f r => by rw [upd_ne (show b ≠ a from fun z => hF (z ▸ f))]; exact r, fun b o u r => by rw [upd_ne (fun z => by subst z; rw [r] at hm; exact hm)]; exact r, fun b o' _ f r => by rw [upd_ne (show b ≠ a from fun z => hF (z ▸ f))]; exact r, fun b xs r => ?_, ⟨[], by simp⟩⟩, rfl⟩
  rw [upd_ne (fun z => by subst z; rw [r] at hm; exact hm)]
  exact r
theorem hr_put (q : HR mg w h H) {n : Nat} {a : Addr} {ho : HO} {o o' : O} (hn : h[n]? = some o) (ha : w.m[n]? = some a) (hF : ¬ w.F a) (hm : Mut (H a)) (hob : OR mg w (upd H a ho) a o') : HR mg w (h.set n o') (upd H a ho) := by
  have l := later_put (o' := o') (ho := ho) q hn ha hF hm
  refine ⟨by rw [List.length_set]; exact q.len, q.nd, fun b z => ?_, fun i o1 b e1 e2 => ?_, fun x hx => ?_⟩
  · obtain ⟨u, e⟩ := q.fz b z
    exact ⟨u, by rw [upd_ne (show b ≠ a from fun y => hF (y ▸ z))]; exact e⟩
  · by_cases hi : n = i
    · subst hi
      rw [ha] at e2
      cases e2
      rw [List.getElem?_set_self (List.getElem?_eq_some_iff.mp hn).1] at e1
      cases e1
      exact hob
    · rw [List.getElem?_set_ne hi] at e1
      have hne : b ≠ a := fun z => by
        subst z
        obtain ⟨h1, e1'⟩ := List.getElem?_eq_some_iff.mp ha
        obtain ⟨h2, e2'⟩ := List.getElem?_eq_some_iff.mp e2
        exact hi ((List.getElem_inj q.nd).mp (e1'.trans e2'.symm))
      exact (q.ob i o1 b e1 e2).mono l Iff.rfl (.inl (upd_ne hne))
  · obtain ⟨e1, e2, e3⟩ := q.pr x hx
    exact ⟨by rw [upd_ne (show x.1 ≠ a from fun z => e3 (z ▸ List.mem_of_getElem? ha))]; exact e1, e2, e3⟩
/-- the object number n is frozen -/
theorem hr_gone (q : HR mg w h H) {n : Nat} {a : Addr} {o : O} (hn : h[n]? = some o) (ha : w.m[n]? = some a) : HR mg (w.frz a) (h.set n .gone) H := by
  refine ⟨by rw [List.length_set]; exact q.len, q.nd, fun b z => ?_, fun i o1 b e1 e2 => ?_, fun x hx => ?_⟩
  · rcases z with rfl | z
    · exact (q.ob n o b hn ha).some q
    · exact q.fz b z
  · by_cases hi : n = i
    · subst hi
      rw [List.getElem?_set_self (List.getElem?_eq_some_iff.mp hn).1] at e1
      have e2' : w.m[n]? = some b := e2
      rw [ha] at e2'
      cases e1
      cases e2'
      exact .inl rfl
    · rw [List.getElem?_set_ne hi] at e1
      have hne : b ≠ a := fun z => by
        subst z
        obtain ⟨h1, e1'⟩ := List.getElem?_eq_some_iff.mp ha
        obtain ⟨h2, e2'⟩ := List.getElem?_eq_some_iff.mp (show w.m[i]? = some b from e2)
        exact hi ((List.getElem_inj q.nd).mp (e1'.trans e2'.symm))
      exact (q.ob i o1 b e1 e2).mono (later_frz q) ⟨fun z => z.resolve_left hne, .inr⟩ (.inl rfl)
  · obtain ⟨e1, e2, e3⟩ := q.pr x hx
    exact ⟨e1, fun z => z.elim (fun y => e3 (y ▸ List.mem_of_getElem? ha)) e2, e3⟩
/-- what is held does not matter to values -/
theorem lv_of (hm : w'.m = w.m) (hF : ∀ a, w.F a → w'.F a) : Lv w H w' H := ⟨hF, fun _ _ _ r => r, fun _ _ _ r => r, fun _ _ _ r => r, fun _ _ _ _ r => r, fun _ _ r => r, ⟨[], by simp [hm]⟩⟩
theorem hr_P (q : HR mg w h H) (hm : w'.m = w.m) (hF : w'.F = w.F) (hP : ∀ p ∈ w'.P, H p.1 = some p.2 ∧ ¬ w.F p.1 ∧ p.1 ∉ w.m) : HR mg w' h H :=
  ⟨by rw [hm]; exact q.len, by rw [hm]; exact q.nd, fun a z => q.fz a (by rw [hF] at z; exact z), fun i o a e1 e2 => by
    rw [hm] at e2
    exact (q.ob i o a e1 e2).mono0 (lv_of hm fun a z => by rw [hF]; exact z) (by rw [hF]) (.inl rfl), fun p hp => by rw [hm, hF]; exact hP p hp⟩
/-- a new thing is held -/
theorem hr_hold (q : HR mg w h H) {p : Addr} {o : HO} (hp : H p = none) : HR mg (w.hold p o) h (upd H p o) :=
  hr_P (hr_new (o := o) q hp) rfl rfl fun x hx => by
    rcases List.mem_cons.mp (show x ∈ (p, o) :: w.P from hx) with e | hx
    · subst e
      exact ⟨upd_same, fun z => q.nF hp z, fun z => q.nm hp z⟩
    · exact (hr_new (o := o) q hp).pr x hx
/-- what is held is changed -/
theorem hr_rehold {p : Addr} {o : HO} (q : HR mg (w.hold p o) h H) (hmu : Mut (H p)) (hne : ∀ x ∈ w.P, x.1 ≠ p) (o' : HO) : HR mg (w.hold p o') h (upd H p o') ∧ Lv w H w (upd H p o') := by
  obtain ⟨e1, e2, e3⟩ := q.pr (p, o) (List.mem_cons_self ..)
  have e2 : ¬ w.F p := e2
  have e3 : p ∉ w.m := e3
  have l : Lv w H w (upd H p o') := ⟨fun _ z => z, fun b u f r => Rd.upd r (fun z => e2 (z ▸ f)), fun b u f r => by rw [upd_ne (show b ≠ p from fun z => e2 (z ▸ f))]; exact r,
    fun b o u r => by rw [upd_ne (fun z => by subst z; rw [r] at hmu; exact hmu)]; exact r, fun b o' _ f r => by rw [upd_ne (show b ≠ p from fun z => e2 (z ▸ f))]; exact r,
    fun b xs r => by rw [upd_ne (fun z => by subst z; rw [r] at hmu; exact hmu)]; exact r, ⟨[], by simp⟩⟩
  refine ⟨⟨q.len, q.nd, fun b z => ?_, fun i o1 b x1 x2 => ?_, fun x hx => ?_⟩, l⟩
  · obtain ⟨u, e⟩ := q.fz b z
    exact ⟨u, by rw [upd_ne (show b ≠ p from fun y => e2 (y ▸ z))]; exact e⟩
  · have hb : b ≠ p := fun z => e3 (z ▸ List.mem_of_getElem? (show w.m[i]? = some b from x2))
    have r : OR mg w H b o1 := OR.mono0 (w := w.hold p o) (w' := w) (lv_of rfl fun _ z => z) Iff.rfl (.inl rfl) (q.ob i o1 b x1 x2)
    exact OR.mono0 (w := w) (w' := w.hold p o') (lv_of rfl fun _ z => z) Iff.rfl (.inl rfl) (r.mono0 l Iff.rfl (.inl (upd_ne hb)))
  · rcases List.mem_cons.mp (show x ∈ (p, o') :: w.P from hx) with z | hx
    · subst z
      exact ⟨upd_same, e2, e3⟩
    · obtain ⟨k1, k2, k3⟩ := q.pr x (List.mem_cons_of_mem _ hx)
      exact ⟨by rw [upd_ne (hne x hx)]; exact k1, k2, k3⟩
/-- .. and let go -/
theorem hr_let {p : Addr} {o : HO} (q : HR mg (w.hold p o) h H) : HR mg w h H := hr_P q rfl rfl fun x hx => q.pr x (List.mem_cons_of_mem _ hx)
end
end Bx
namespace Bx
open PySem PySem.Spec PyProof.Rows L2

/-- an exception of the class named c with the fields ds -/
def XR (g : Gx) (w : Wd) (H : Hp) (c : Str) (ds : List D) (C : Addr) (d : Option Addr) : Prop :=
  g.mg c = some (.ref C) ∧ ((ds = [] ∧ d = none) ∨ ∃ a fs, d = some a ∧ H a = some (.xd fs) ∧ fs.map (·.1) = ds.map (fun _ => fldOf c) ∧ RVs g w H ds (fs.map (·.2)))

def OKg {α β : Type} (g : Gx) (R : Wd → Hp → α → β → Prop) (w : Wd) (H : Hp) (E : XK) (Q : β → Hp → Prop) : Res α → Prop
  | .ok a h => ∀ w' H' b, Later w H w' H' → HR g w' h H' → R w' H' a b → Q b H'
  | .exc c ds h => ∀ w' H' C d, Later w H w' H' → HR g w' h H' → XR g w' H' c ds C d → E (.ref C) d H'
  | .bad => False

section
variable {α β α' β' : Type} {g : Gx} {R : Wd → Hp → α → β → Prop} {R' : Wd → Hp → α' → β' → Prop} {w w' : Wd} {H H' : Hp} {E : XK} {Q Q' : β → Hp → Prop} {r : Res α}
theorem OKg.mono (l : Later w H w' H') (o : OKg g R w H E Q r) : OKg g R w' H' E Q r := by
  cases r with
  | ok a h => exact fun w2 H2 b l2 => o w2 H2 b (l.trans l2)
  | exc c ds h => exact fun w2 H2 C d l2 => o w2 H2 C d (l.trans l2)
  | bad => exact o
theorem OKg.imp (o : OKg g R w H E Q r) (hq : ∀ b H', Q b H' → Q' b H') : OKg g R w H E Q' r := by
  cases r with
  | ok a h => exact fun w2 H2 b l2 hr rv => hq b H2 (o w2 H2 b l2 hr rv)
  | exc c ds h => exact o
  | bad => exact o
theorem OKg.bind {f : α → Hh → Res α'} {Q2 : β' → Hp → Prop} (o : OKg g R' w H E Q2 (r.bind f)) :
    OKg g R w H E (fun b H1 => ∃ w1 a h1, Later w H w1 H1 ∧ HR g w1 h1 H1 ∧ R w1 H1 a b ∧ OKg g R' w1 H1 E Q2 (f a h1)) r := by
  cases r with
  | ok a h => exact fun w2 H2 b l2 hr rv => ⟨w2, a, h, l2, hr, rv, OKg.mono l2 o⟩
  | exc c ds h => exact o
  | bad => exact o
end

/-- what is wished for, at these slots -/
abbrev wAt (W : WX) (σ : L2.St) : XK := fun c d H => W c d σ H
section
variable (g : Gx) (W : WX)
def tI (f : Rho → Hh → Res D) : TE := fun σ H Q => ∃ w ρ h, SR g w ρ h σ H ∧ OKg g (RV g) w H (wAt W σ) Q (f ρ h)
def tT (f : Rho → Hh → Res Bool) : TT := fun σ H Q => ∃ w ρ h, SR g w ρ h σ H ∧ OKg g (fun _ _ a b => a = b) w H (wAt W σ) Q (f ρ h)
def tL (f : Rho → Hh → Res (List D)) : TA := fun σ H Q => ∃ w ρ h, SR g w ρ h σ H ∧ OKg g (RVs g) w H (wAt W σ) Q (f ρ h)
end
section
variable (g : Gx) (E : XK)
abbrev RB : Wd → Hp → Bool → Bool → Prop := fun _ _ a b => a = b
def rD (f : D → D → Hh → Res D) : R2 := fun x y H Q => ∃ w h a b, HR g w h H ∧ RV g w H a x ∧ RV g w H b y ∧ OKg g (RV g) w H E Q (f a b h)
def rU1 (f : D → Hh → Res D) : V → Hp → VK → Prop := fun x H Q => ∃ w h a, HR g w h H ∧ RV g w H a x ∧ OKg g (RV g) w H E Q (f a h)
def rC (f : List D → Hh → Res D) : List V → Hp → VK → Prop := fun xs H Q => ∃ w h ds, HR g w h H ∧ RVs g w H ds xs ∧ OKg g (RV g) w H E Q (f ds h)
def rM (f : D → List D → Hh → Res D) : V → List V → Hp → VK → Prop := fun x xs H Q => ∃ w h a ds, HR g w h H ∧ RV g w H a x ∧ RVs g w H ds xs ∧ OKg g (RV g) w H E Q (f a ds h)
end

section
variable {g : Gx} {E : XK} {X : Cx} {w : Wd} {H : Hp} {h : Hh} {Q : VK}
theorem OKg.keep {a : D} {x : V} (o : OKg g (RV g) w H E Q (.ok a h)) (hr : HR g w h H) (rv : RV g w H a x) : Q x H := o w H x (Later.refl w H) hr rv
theorem OKg.tup {ds : List D} {vs : List V} (o : OKg g (RV g) w H E Q (.ok (.tup ds) h)) (hr : HR g w h H) (rv : RVs g w H ds vs) : ∀ p, H p = none → Q (.ref p) (upd H p (.tup vs)) := fun p hp =>
  o w _ (.ref p) (later_new hr hp) (hr_new hr hp) (.tup upd_same (rv.mono (later_new hr hp)))
theorem OKg.lst {ds : List D} {vs : List V} (o : OKg g (RV g) w H E Q (.ok (.lst ds) h)) (hr : HR g w h H) (rv : RVs g w H ds vs) : ∀ p, H p = none → Q (.ref p) (upd H p (.lst vs)) := fun p hp =>
  o (w.frz p) _ (.ref p) (later_lay hr hp) (hr_lay hr hp) (.lst upd_same (.inl rfl) (rv.mono (later_lay hr hp)))
/-- a new dict, locked -/
theorem OKg.dct {kds : List (Key × D)} {kvs : List (Key × V)} (o : OKg g (RV g) w H E Q (.ok (.dct kds) h)) (hr : HR g w h H) (ek : kvs.map (·.1) = kds.map (·.1)) (rv : RVs g w H (kds.map (·.2)) (kvs.map (·.2))) : ∀ p ob, H p = none → Q (.ref p) (upd H p (.frz ob (.dK kvs))) := fun p ob hp =>
  o w _ (.ref p) (later_new hr hp) (hr_new hr hp) (.dct upd_same ek (rv.mono (later_new hr hp)))
theorem OKg.nlst {ds : List D} {vs : List V} (o : OKg g (RV g) w H E Q (.ok (.ref h.length) (h ++ [.lst ds]))) (hr : HR g w h H) (rv : RVs g w H ds vs) : ∀ p, H p = none → Q (.ref p) (upd H p (.lst vs)) := fun p hp =>
  o (w.new p) _ (.ref p) (later_add hr hp) (hr_add hr hp ⟨fun z => hr.nF hp z, vs, upd_same, rv.mono (later_add hr hp)⟩) (.ref (by show (w.m ++ [p])[h.length]? = some p; rw [← hr.len]; simp))
theorem OKg.ndct {kds : List (Key × D)} {kvs : List (Key × V)} (o : OKg g (RV g) w H E Q (.ok (.ref h.length) (h ++ [.dct kds]))) (hr : HR g w h H) (ek : kvs.map (·.1) = kds.map (·.1)) (rv : RVs g w H (kds.map (·.2)) (kvs.map (·.2))) : ∀ p, H p = none → Q (.ref p) (upd H p (.dK kvs)) := fun p hp =>
  o (w.new p) _ (.ref p) (later_add hr hp) (hr_add hr hp ⟨fun z => hr.nF hp z, kvs, upd_same, ek, rv.mono (later_add hr hp)⟩) (.ref (by show (w.m ++ [p])[h.length]? = some p; rw [← hr.len]; simp))
/-- the list number n changes -/
theorem OKg.put {n : Nat} {ds ds' : List D} {a : D} {x : V} (o : OKg g (RV g) w H E Q (.ok a (h.set n (.lst ds')))) (hr : HR g w h H) (hn : h[n]? = some (.lst ds)) {p : Addr} (hp : w.m[n]? = some p) {vs' : List V}
    (rv : RVs g w H ds' vs') (rx : RV g w H a x) : Q x (upd H p (.lst vs')) := by
  obtain ⟨nF, vs, e, _⟩ := hr.ob n _ p hn hp
  have mu : Mut (H p) := by rw [e]; trivial
  have l := later_put (o' := .lst ds') (ho := .lst vs') hr hn hp nF mu
  exact o w _ x l (hr_put hr hn hp nF mu ⟨nF, vs', upd_same, rv.mono l⟩) (rx.mono l)
theorem OKg.putD {n : Nat} {kds kds' : List (Key × D)} {a : D} {x : V} (o : OKg g (RV g) w H E Q (.ok a (h.set n (.dct kds')))) (hr : HR g w h H) (hn : h[n]? = some (.dct kds)) {p : Addr} (hp : w.m[n]? = some p) {kvs' : List (Key × V)}
    (ek : kvs'.map (·.1) = kds'.map (·.1)) (rv : RVs g w H (kds'.map (·.2)) (kvs'.map (·.2))) (rx : RV g w H a x) : Q x (upd H p (.dK kvs')) := by
  obtain ⟨nF, vs, e, _⟩ := hr.ob n _ p hn hp
  have mu : Mut (H p) := by rw [e]; trivial
  have l := later_put (o' := .dct kds') (ho := .dK kvs') hr hn hp nF mu
  exact o w _ x l (hr_put hr hn hp nF mu ⟨nF, kvs', upd_same, ek, rv.mono l⟩) (rx.mono l)

/-- the items of a list -/
def asL (h : Hh) : D → Option (List D)
  | .lst ds => some ds
  | .ref n => match h[n]? with | some (.lst ds) => some ds | _ => none
  | _ => none
theorem asL_ok {d : D} {x : V} {ds : List D} (e : asL h d = some ds) (hr : HR g w h H) (r : RV g w H d x) : ∃ a vs, x = .ref a ∧ H a = some (.lst vs) ∧ RVs g w H ds vs := by
  cases r with
  | lst h1 _ t => simp [asL] at e; subst e; exact ⟨_, _, rfl, h1, t⟩
  | @ref n a h1 =>
    simp only [asL] at e
    split at e
    · rename_i e2
      cases e
      obtain ⟨_, vs, e3, t⟩ := hr.ob n _ a e2 h1
      exact ⟨a, vs, rfl, e3, t⟩
    · cases e
  | _ => simp [asL] at e
/-- the items of a list or a tuple -/
def asS (h : Hh) : D → Option (List D)
  | .tup ds => some ds
  | d => asL h d
theorem asS_ok {K : PySem.W.Frag} {d : D} {x : V} {ds : List D} (e : asS h d = some ds) (hr : HR g w h H) (r : RV g w H d x) : ∃ a vs, x = .ref a ∧ (SqL K H a vs ∨ SqT K H a vs) ∧ RVs g w H ds vs := by
  cases d with
  | tup xs =>
    cases r with
    | tup h1 t => simp [asS] at e; subst e; exact ⟨_, _, rfl, .inr (.inl (.inl h1)), t⟩
  | _ =>
    simp only [asS] at e
    obtain ⟨a, vs, e1, e2, t⟩ := asL_ok e hr r
    exact ⟨a, vs, e1, .inl (.inl (.inl e2)), t⟩
theorem rv_tup {ds : List D} {x : V} (r : RV g w H (.tup ds) x) : ∃ a vs, x = .ref a ∧ H a = some (.tup vs) ∧ RVs g w H ds vs := by
  cases r with
  | tup h1 t => exact ⟨_, _, rfl, h1, t⟩
theorem rv_int {i : Int} {x : V} (r : RV g w H (.int i) x) : x = .int i := by cases r; rfl
theorem rv_str {i : Str} {x : V} (r : RV g w H (.str i) x) : x = .str i := by cases r; rfl
theorem rv_bl {i : Bool} {x : V} (r : RV g w H (.bl i) x) : x = .bl i := by cases r; rfl
theorem rv_non {x : V} (r : RV g w H .non x) : x = .non := by cases r; rfl

theorem opr_of {f : Value → Value → Sem Value} {fd : D → D → Hh → Res D}
    (hh : ∀ (w : Wd) (H : Hp) (h : Hh) (a b : D) (x y : V) (Q : VK), HR g w h H → RV g w H a x → RV g w H b y → OKg g (RV g) w H E Q (fd a b h) → ∃ r : R2, OpR X f r ∧ r x y H Q) : OpR X f (rD g E fd) := by
  intro pins s σ H x y v u Q I rx ry ⟨w, h, a, b, hr, ra, rb, o⟩
  obtain ⟨r, hop, q⟩ := hh w H h a b x y Q hr ra rb o
  exact hop pins s σ H x y v u Q I rx ry q

def sz (n : Nat) : Bool := decide (n ≤ sizeLine)
theorem sz_le {n : Nat} (e : sz n = true) : n ≤ sizeLine := of_decide_eq_true e

/-- a + b -/
def addD (a b : D) (h : Hh) : Res D := match a, b with
  | .int i, .int j => .ok (.int (i + j)) h
  | .str i, .str j => if sz (i.length + j.length) then .ok (.str (i ++ j)) h else .bad
  | .tup xs, .tup ys => if sz (xs.length + ys.length) then .ok (.tup (xs ++ ys)) h else .bad
  | a, b => match asL h a, asL h b with
    | some xs, some ys => if sz (xs.length + ys.length) then .ok (.lst (xs ++ ys)) h else .bad
    | _, _ => .bad
theorem add_ok : OpR X (binaryOp .Add) (rD g E addD) := opr_of fun w H h a b x y Q hr ra rb o => by
  unfold addD at o
  split at o
  · cases ra; cases rb
    exact ⟨_, op_add, _, _, rfl, rfl, o.keep hr (.int _)⟩
  · cases ra; cases rb
    split at o
    · exact ⟨_, op_add_str, _, _, rfl, rfl, sz_le ‹_›, o.keep hr (.str _)⟩
    · exact o.elim
  · obtain ⟨p, us, rfl, hp, tu⟩ := rv_tup ra
    obtain ⟨q, vs, rfl, hq, tv⟩ := rv_tup rb
    split at o
    · rename_i hz
      rw [tu.length, tv.length] at hz
      refine ⟨_, op_catA, _, _, _, _, rfl, rfl, .inl (.inl hp), .inl (.inl hq), sz_le hz, fun e => ?_, fun _ e => ?_, fun _ _ => o.tup hr (tu.append tv)⟩
      · subst e
        cases tu
        exact o.keep hr rb
      · subst e
        cases tv
        rw [List.append_nil] at o
        exact o.keep hr ra
    · exact o.elim
  · split at o
    · rename_i e1 e2
      obtain ⟨p, us, rfl, hp, tu⟩ := asL_ok e1 hr ra
      obtain ⟨q, vs, rfl, hq, tv⟩ := asL_ok e2 hr rb
      split at o
      · rename_i hz
        rw [tu.length, tv.length] at hz
        exact ⟨_, op_cat, _, _, _, _, rfl, rfl, hp, hq, sz_le hz, o.lst hr (tu.append tv)⟩
      · exact o.elim
    · exact o.elim
/-- a - b -/
def subD (a b : D) (h : Hh) : Res D := match a, b with
  | .int i, .int j => .ok (.int (i - j)) h
  | _, _ => .bad
theorem sub_ok : OpR X (binaryOp .Sub) (rD g E subD) := opr_of fun w H h a b x y Q hr ra rb o => by
  unfold subD at o
  split at o
  · cases ra; cases rb
    exact ⟨_, op_sub, _, _, rfl, rfl, o.keep hr (.int _)⟩
  · exact o.elim
def small64 (i : Int) : Bool := decide (-(2 ^ 64) < i) && decide (i < 2 ^ 64)
/-- a * b -/
def mulD (a b : D) (h : Hh) : Res D := match a, b with
  | .int i, .int j => if small64 i || small64 j then .ok (.int (i * j)) h else .bad
  | a, .int k => match asL h a with
    | some xs => if decide (-(2 ^ 63) ≤ k) && decide (k < 2 ^ 63) && sz (xs.length * k.toNat) then .ok (.lst (List.replicate k.toNat xs).flatten) h else .bad
    | _ => .bad
  | _, _ => .bad
theorem RVs.rep {ds : List D} {vs : List V} (r : RVs g w H ds vs) : ∀ n : Nat, RVs g w H (List.replicate n ds).flatten (List.replicate n vs).flatten
  | 0 => .nil
  | n + 1 => by
    rw [List.replicate_succ, List.replicate_succ, List.flatten_cons, List.flatten_cons]
    exact r.append (RVs.rep r n)
theorem mul_ok : OpR X (binaryOp .Mult) (rD g E mulD) := opr_of fun w H h a b x y Q hr ra rb o => by
  unfold mulD at o
  split at o
  · cases ra; cases rb
    split at o
    · rename_i hz
      refine ⟨_, op_mul, _, _, rfl, rfl, ?_, o.keep hr (.int _)⟩
      simp only [small64, Bool.or_eq_true, Bool.and_eq_true, decide_eq_true_eq] at hz
      exact hz
    · exact o.elim
  · cases rb
    split at o
    · rename_i e1
      obtain ⟨p, us, rfl, hp, tu⟩ := asL_ok e1 hr ra
      split at o
      · rename_i hz
        simp only [Bool.and_eq_true, decide_eq_true_eq] at hz
        obtain ⟨⟨h1, h2⟩, h3⟩ := hz
        rw [tu.length] at h3
        exact ⟨_, op_rep, _, _, _, rfl, rfl, hp, h1, h2, sz_le h3, o.lst hr (tu.rep _)⟩
      · exact o.elim
    · exact o.elim
  · exact o.elim
/-- a % b, a // b, a ** b -/
def modD (a b : D) (h : Hh) : Res D := match a, b with
  | .int i, .int j => if decide (0 < j) then .ok (.int (i % j)) h else .bad
  | _, _ => .bad
theorem mod_ok : OpR X (binaryOp .Mod) (rD g E modD) := opr_of fun w H h a b x y Q hr ra rb o => by
  unfold modD at o
  split at o
  · cases ra; cases rb
    split at o
    · rename_i hz
      exact ⟨_, op_mod, _, _, rfl, rfl, of_decide_eq_true hz, o.keep hr (.int _)⟩
    · exact o.elim
  · exact o.elim
def fdivD (a b : D) (h : Hh) : Res D := match a, b with
  | .int i, .int j => if decide (0 < j) && decide (j < 1073741824) then .ok (.int (i / j)) h else .bad
  | _, _ => .bad
theorem fdiv_ok : OpR X (binaryOp .FloorDiv) (rD g E fdivD) := opr_of fun w H h a b x y Q hr ra rb o => by
  unfold fdivD at o
  split at o
  · cases ra; cases rb
    split at o
    · rename_i hz
      simp only [Bool.and_eq_true, decide_eq_true_eq] at hz
      exact ⟨_, op_fdiv, _, _, rfl, rfl, hz, o.keep hr (.int _)⟩
    · exact o.elim
  · exact o.elim
def powD (a b : D) (h : Hh) : Res D := match a, b with
  | .int i, .int j => if decide (0 ≤ j) && decide (j ≤ 1000000) && decide (i.natAbs < 2 ^ 64) then .ok (.int (i ^ j.toNat)) h else .bad
  | _, _ => .bad
theorem pow_ok : OpR X (binaryOp .Pow) (rD g E powD) := opr_of fun w H h a b x y Q hr ra rb o => by
  unfold powD at o
  split at o
  · cases ra; cases rb
    split at o
    · rename_i hz
      simp only [Bool.and_eq_true, decide_eq_true_eq] at hz
      obtain ⟨⟨h1, h2⟩, h3⟩ := hz
      exact ⟨_, op_pow, _, _, rfl, rfl, ⟨h1, h2, h3⟩, o.keep hr (.int _)⟩
    · exact o.elim
  · exact o.elim
end
end Bx
namespace Bx
open PySem PySem.Spec PyProof.Rows L2

/-- what a context must bring -/
structure XO (g : Gx) (X : Cx) : Prop where
  K : X.K = g.K
  mg : X.mg = g.mg
  calm : X.calm = true
  nd : X.N.Nodup
  un : X.A.units + 200 < cLine
  gd : X.A.guards = some []

mutual
def toP (f : Nat → Option PyData) : D → Option PyData
  | .non => some .none
  | .bl b => some (.bool b)
  | .int i => some (.int i)
  | .str x => some (.str x)
  | .tup ds => (toPs f ds).map .tuple
  | .lst ds => (toPs f ds).map .list
  | .ref n => f n
  | .dct kds => match kds with | [] => some (.dict []) | _ => none
  | .obj _ _ => none
  | .exn _ _ => none
  | .scr _ => none
  | .val _ => none
def toPs (f : Nat → Option PyData) : List D → Option (List PyData)
  | [] => some []
  | d :: ds => match toP f d, toPs f ds with | some p, some ps => some (p :: ps) | _, _ => none
end
def refP (h : Hh) : Nat → Nat → Option PyData
  | 0, _ => none
  | k + 1, n => match h[n]? with | some (.lst ds) => (toPs (refP h k) ds).map .list | _ => none
def toD (h : Hh) (d : D) : Option PyData := toP (refP h 4) d
def toDs (h : Hh) (ds : List D) : Option (List PyData) := toPs (refP h 4) ds

mutual
/-- no list within -/
def noL : PyData → Bool
  | .list _ => false
  | .tuple xs => noLs xs
  | _ => true
def noLs : List PyData → Bool
  | [] => true
  | x :: xs => noL x && noLs xs
end
section
variable {g : Gx} {w : Wd} {H : Hp} {h : Hh} {P : Program} {wo : World} {hp : Heap}
theorem lst_at {a : Addr} {vs : List V} (hok : HOk P wo H hp) (e : H a = some (.lst vs)) : ∃ its n, Vals vs its ∧ hp.get? a = some { cls := .type "list", data := .seq its.toArray n } ∧ vs.length ≤ sizeLine := by
  obtain ⟨z, its, n, r, q⟩ := hok a _ e
  exact ⟨its, n, r, q, z⟩
def isAt : PyData → Bool
  | .none | .bool _ | .int _ | .str _ => true
  | _ => false
mutual
/-- what is read, its dicts not the table of modules -/
inductive RdN (hp : Heap) : Value → PyData → Prop
  | leaf {v : Value} {d : PyData} {as : List Addr} : Reads hp v d as → isAt d = true → RdN hp v d
  | dct0 {a : Addr} {o : Obj} {ep : Nat} : hp.get? a = some o → o.ExactDict → o.data = .dict #[] ep → (a == sysModules) = false → RdN hp (.ref a) (.dict [])
  | list {a : Addr} {o : Obj} {vs : Array Value} {n : Nat} {xs : List PyData} {as : List Addr} : hp.get? a = some o → o.cls = .type "list" → o.data = .seq vs n → ReadsAll hp vs.toList xs as → RdNs hp vs.toList xs → RdN hp (.ref a) (.list xs)
  | tuple {a : Addr} {o : Obj} {vs : Array Value} {n : Nat} {xs : List PyData} {as : List Addr} : hp.get? a = some o → o.cls = .type "tuple" → o.data = .seq vs n → ReadsAll hp vs.toList xs as → RdNs hp vs.toList xs → RdN hp (.ref a) (.tuple xs)
inductive RdNs (hp : Heap) : List Value → List PyData → Prop
  | nil : RdNs hp [] []
  | cons {v : Value} {d : PyData} {vs : List Value} {ds : List PyData} : RdN hp v d → RdNs hp vs ds → RdNs hp (v :: vs) (d :: ds)
end
mutual
theorem toP_reads {f : Nat → Option PyData} (hok : HOk P wo H hp) (hf : ∀ n q a, f n = some q → w.m[n]? = some a → ∃ as, Reads hp (.ref a) q as ∧ RdN hp (.ref a) q) :
    ∀ {d : D} {p : PyData} {v : V} {u : Value}, toP f d = some p → RV g w H d v → RelV v u → ∃ as, Reads hp u p as ∧ RdN hp u p
  | .non, p, v, u, e, r, q => by cases r; cases e; cases q; exact ⟨_, .none, .leaf .none rfl⟩
  | .bl b, p, v, u, e, r, q => by cases r; cases e; cases q; exact ⟨_, .bool b, .leaf (.bool b) rfl⟩
  | .int i, p, v, u, e, r, q => by cases r; cases e; obtain ⟨t, rfl⟩ := q; exact ⟨_, .int i t, .leaf (.int i t) rfl⟩
  | .str x, p, v, u, e, r, q => by cases r; cases e; obtain ⟨t, rfl⟩ := q; exact ⟨_, .str x t, .leaf (.str x t) rfl⟩
  | .tup ds, p, v, u, e, r, q => by
    cases r with
    | tup h1 t =>
      simp only [toP, Option.map_eq_some_iff] at e
      obtain ⟨ps, e1, rfl⟩ := e
      cases q
      obtain ⟨z, its, rv, o, h2, h3, n, h4⟩ := hok _ _ h1
      obtain ⟨as, rs, hn⟩ := toPs_reads hok hf e1 t rv
      exact ⟨_, .tuple h2 h3 h4 (by simpa using rs), .tuple h2 h3 h4 (by simpa using rs) (by simpa using hn)⟩
  | .lst ds, p, v, u, e, r, q => by
    cases r with
    | lst h1 _ t =>
      simp only [toP, Option.map_eq_some_iff] at e
      obtain ⟨ps, e1, rfl⟩ := e
      cases q
      obtain ⟨z, its, n, rv, h2⟩ := hok _ _ h1
      obtain ⟨as, rs, hn⟩ := toPs_reads hok hf e1 t rv
      exact ⟨_, .list h2 rfl rfl (by simpa using rs), .list h2 rfl rfl (by simpa using rs) (by simpa using hn)⟩
  | .dct kds, p, v, u, e, r, q => by
    cases r with
    | @dct a ob kvs _ h1' e1 t =>
      have h1 : Rd H a (.dK kvs) := .inr ⟨ob, h1'⟩
      cases kds with
      | nil =>
        simp only [toP] at e
        cases e
        have e2 : kvs = [] := by simpa using e1
        subst e2
        cases q
        obtain ⟨z, hs, vs, kv, o, es, ep, h2, h3, h4, h5⟩ := h1.ok hok
        cases kv
        have h6 : es.toList = [] := by
          have h7 := h5.2.1
          cases es with | mk l => cases h7; rfl
        have rd : Reads hp (.ref a) (.dict []) (a :: [] ++ []) := .dict (kvs := []) h2 h3.1 h4 (by rw [h6]; exact .nil) (by rw [h6]; exact .nil)
        have h7 : es = #[] := by cases es with | mk l => simp at h6; rw [h6]
        subst h7
        exact ⟨_, rd, .dct0 h2 h3 h4 hs⟩
      | cons x y => simp [toP] at e
  | .ref n, p, v, u, e, r, q => by
    cases r with
    | ref h1 =>
      cases q
      simp only [toP] at e
      obtain ⟨as, x, y⟩ := hf n p _ e h1
      exact ⟨as, x, y⟩
  | .obj _ _, p, v, u, e, r, q => by simp [toP] at e
  | .exn _ _, p, v, u, e, r, q => by simp [toP] at e
  | .scr _, p, v, u, e, r, q => by simp [toP] at e
  | .val _, p, v, u, e, r, q => by simp [toP] at e
theorem toPs_reads {f : Nat → Option PyData} (hok : HOk P wo H hp) (hf : ∀ n q a, f n = some q → w.m[n]? = some a → ∃ as, Reads hp (.ref a) q as ∧ RdN hp (.ref a) q) :
    ∀ {ds : List D} {ps : List PyData} {vs : List V} {us : List Value}, toPs f ds = some ps → RVs g w H ds vs → Vals vs us → ∃ as, ReadsAll hp us ps as ∧ RdNs hp us ps
  | [], ps, vs, us, e, r, q => by simp only [toPs] at e; cases e; cases r; cases q; exact ⟨_, .nil, .nil⟩
  | d :: ds, ps, vs, us, e, r, q => by
    simp only [toPs] at e
    split at e
    · rename_i e1 e2
      cases e
      cases r with
      | cons r1 r2 =>
        cases q with
        | cons q1 q2 =>
          obtain ⟨as, x, n1⟩ := toP_reads hok hf e1 r1 q1
          obtain ⟨bs, y, n2⟩ := toPs_reads hok hf e2 r2 q2
          exact ⟨_, .cons x y, .cons n1 n2⟩
    · cases e
end
theorem refP_reads (hok : HOk P wo H hp) (hr : HR g w h H) : ∀ (k n : Nat) (q : PyData) (a : Addr), refP h k n = some q → w.m[n]? = some a → ∃ as, Reads hp (.ref a) q as ∧ RdN hp (.ref a) q
  | 0, _, _, _, e, _ => by simp [refP] at e
  | k + 1, n, q, a, e, ea => by
    simp only [refP] at e
    split at e
    · rename_i e1
      simp only [Option.map_eq_some_iff] at e
      obtain ⟨ps, e2, rfl⟩ := e
      obtain ⟨_, vs, e3, t⟩ := hr.ob n _ a e1 ea
      obtain ⟨z, its, n, rv, h2⟩ := hok _ _ e3
      obtain ⟨as, rs, hn⟩ := toPs_reads hok (refP_reads hok hr k) e2 t rv
      exact ⟨_, .list h2 rfl rfl (by simpa using rs), .list h2 rfl rfl (by simpa using rs) (by simpa using hn)⟩
    · cases e
theorem toD_reads' (hok : HOk P wo H hp) (hr : HR g w h H) {d : D} {p : PyData} {v : V} {u : Value} (e : toD h d = some p) (r : RV g w H d v) (q : RelV v u) : ∃ as, Reads hp u p as ∧ RdN hp u p :=
  toP_reads hok (refP_reads hok hr 4) e r q
theorem toD_reads (hok : HOk P wo H hp) (hr : HR g w h H) {d : D} {p : PyData} {v : V} {u : Value} (e : toD h d = some p) (r : RV g w H d v) (q : RelV v u) : ∃ as, Reads hp u p as := by
  obtain ⟨as, x, _⟩ := toD_reads' hok hr e r q
  exact ⟨as, x⟩
theorem toDs_reads (hok : HOk P wo H hp) (hr : HR g w h H) {ds : List D} {ps : List PyData} {vs : List V} {us : List Value} (e : toDs h ds = some ps) (r : RVs g w H ds vs) (q : Vals vs us) : ∃ as, ReadsAll hp us ps as := by
  obtain ⟨as, x, _⟩ := toPs_reads hok (refP_reads hok hr 4) e r q
  exact ⟨as, x⟩
end

/-- data that may be compared -/
def dOk (p : PyData) : Bool := p.plain && decide (p.depth ≤ 150)

section
variable {g : Gx} {E : XK} {X : Cx} {w : Wd} {H : Hp} {h : Hh} {Q : VK}
theorem fin_b {pins : List (Addr × Obj)} {σ : L2.St} {s : Shared} {b : Bool} (I : Inv X pins σ H s) (hr : HR g w h H) (o : OKg g (RV g) w H E Q (.ok (.bl b) h)) : EP X pins σ Q (.bool b) s := ⟨.bl b, H, I, rfl, o.keep hr (.bl b)⟩
/-- two lists of different lengths -/
def difL (a b : D) (h : Hh) : Bool := match asL h a, asL h b with
  | some xs, some ys => decide (xs.length ≠ ys.length)
  | _, _ => false
mutual
/-- the same, dicts only where they are empty -/
def sameP : PyData → PyData → Bool
  | .none, .none => true
  | .bool a, .bool b => decide (a = b)
  | .int a, .int b => decide (a = b)
  | .str a, .str b => decide (a = b)
  | .list xs, .list ys => samePs xs ys
  | .tuple xs, .tuple ys => samePs xs ys
  | .dict a, .dict b => a.isEmpty && b.isEmpty
  | _, _ => false
def samePs : List PyData → List PyData → Bool
  | [], [] => true
  | x :: xs, y :: ys => sameP x y && samePs xs ys
  | _, _ => false
end
def isLs : PyData → Bool
  | .list _ => true
  | _ => false
open PySem.W (EqTree) in
section
variable {P : Program} {wo : World} {s : Shared}
theorem atom_tree {v y : Value} {p q : PyData} {as bs : List Addr} {n : Nat} (h : sameP p q = true) (r : Reads s.heap v p as) (t : isAt p = true) (r2 : Reads s.heap y q bs) : EqTree P wo s n v y true := by
  have e : p = q ∧ p.plain = true ∧ p.depth = 0 := by
    cases p with
    | none => cases q <;> simp [sameP] at h <;> exact ⟨rfl, rfl, rfl⟩
    | bool a => cases q <;> simp [sameP] at h; subst h; exact ⟨rfl, rfl, rfl⟩
    | int a => cases q <;> simp [sameP] at h; subst h; exact ⟨rfl, rfl, rfl⟩
    | str a => cases q <;> simp [sameP] at h; subst h; exact ⟨rfl, rfl, rfl⟩
    | _ => cases t
  obtain ⟨rfl, e2, e3⟩ := e
  refine .leaf fun A hu => ?_
  have z := SeqAt.eqAt_plain p p A s v y as bs r r2 e2 e2 (by rw [e3]; omega)
  rw [SeqAt.eqv_refl_plain p e2] at z
  exact z
theorem dict0_of {a : Addr} {o : Obj} {ep : Nat} (h1 : s.heap.get? a = some o) (h2 : o.ExactDict) (h3 : o.data = .dict #[] ep) : s.heap.DictOf (strKind P wo) a [] :=
  ⟨o, #[], ep, h1, h2, h3, fun e he => by simp at he, .nil, by simp⟩
mutual
theorem same_tree : ∀ {p q : PyData} {v y : Value} {n : Nat}, RdN s.heap v p → RdN s.heap y q → sameP p q = true → p.depth ≤ n → EqTree P wo s n v y true
  | _, _, _, _, _, .leaf r t, r2, h, _ => by
    cases r2 with
    | leaf r2 _ => exact atom_tree h r t r2
    | dct0 _ _ _ _ => cases r <;> simp [isAt, sameP] at t h
    | list _ _ _ _ _ => cases r <;> simp [isAt, sameP] at t h
    | tuple _ _ _ _ _ => cases r <;> simp [isAt, sameP] at t h
  | _, _, _, _, n, .dct0 (a := a) h1 h2 h3 h4, r2, h, hn => by
    cases r2 with
    | leaf r2 t => cases r2 <;> simp [isAt, sameP] at t h
    | @dct0 b _ _ k1 k2 k3 k4 =>
      by_cases e : a = b
      · subst e; exact .same
      · cases n with
        | zero => simp [PyData.depth] at hn
        | succ n => exact .dicts (e := fun _ => true) e h4 k4 (dict0_of h1 h2 h3) (dict0_of k1 k2 k3) (fun k v y hm => by simp at hm)
    | list _ _ _ _ _ => simp [sameP] at h
    | tuple _ _ _ _ _ => simp [sameP] at h
  | _, _, _, _, n, .list (a := a) (vs := vs) (xs := xs) h1 h2 h3 h4 h5, r2, h, hn => by
    cases r2 with
    | leaf r2 t => cases r2 <;> simp [isAt, sameP] at t h
    | dct0 _ _ _ _ => simp [sameP] at h
    | @list b _ vs2 n2 ys _ k1 k2 k3 k4 k5 =>
      by_cases e : a = b
      · subst e; exact .same
      · cases n with
        | zero => simp [PyData.depth] at hn
        | succ n =>
          have z := same_trees (n := n) h5 k5 (by simpa [sameP] using h) (by simp only [PyData.depth] at hn; omega)
          have t := EqTree.lists (prog := P) (w := wo) (s := s) (n := n) (e := fun _ => true) e ⟨_, h1, h2, _, h3⟩ ⟨_, k1, k2, _, k3⟩ (by simpa using z.1) (fun j i1 i2 => z.2 j i1 i2)
          rw [show ((List.range vs.size).all fun _ => true) = true by simp] at t
          exact t
    | tuple _ _ _ _ _ => simp [sameP] at h
  | _, _, _, _, n, .tuple (a := a) (vs := vs) (xs := xs) h1 h2 h3 h4 h5, r2, h, hn => by
    cases r2 with
    | leaf r2 t => cases r2 <;> simp [isAt, sameP] at t h
    | dct0 _ _ _ _ => simp [sameP] at h
    | list _ _ _ _ _ => simp [sameP] at h
    | @tuple b _ vs2 n2 ys _ k1 k2 k3 k4 k5 =>
      by_cases e : a = b
      · subst e; exact .same
      · cases n with
        | zero => simp [PyData.depth] at hn
        | succ n =>
          have z := same_trees (n := n) h5 k5 (by simpa [sameP] using h) (by simp only [PyData.depth] at hn; omega)
          have t := EqTree.tuples (prog := P) (w := wo) (s := s) (n := n) (e := fun _ => true) e ⟨_, h1, h2, _, h3⟩ ⟨_, k1, k2, _, k3⟩ (fun j i1 i2 => z.2 j i1 i2)
          have sz : vs.size = vs2.size := by simpa using z.1
          rw [show ((List.range (min vs.size vs2.size)).all fun _ => true) = true by simp, sz] at t
          simpa using t
theorem same_trees : ∀ {xs ys : List PyData} {vs us : List Value} {n : Nat}, RdNs s.heap vs xs → RdNs s.heap us ys → samePs xs ys = true → PyData.depthAll xs ≤ n → vs.length = us.length ∧ ∀ j (h1 : j < vs.length) (h2 : j < us.length), EqTree P wo s n vs[j] us[j] true
  | _, _, _, _, _, .nil, .nil, _, _ => ⟨rfl, fun j h1 => by simp at h1⟩
  | _, _, _, _, _, .nil, .cons _ _, h, _ => by simp [samePs] at h
  | _, _, _, _, _, .cons _ _, .nil, h, _ => by simp [samePs] at h
  | _, _, _, _, n, .cons a r, .cons b t, h, hn => by
    simp only [samePs, Bool.and_eq_true] at h
    simp only [PyData.depthAll] at hn
    have z1 := same_tree (n := n) a b h.1 (by omega)
    have z2 := same_trees (n := n) r t h.2 (by omega)
    refine ⟨by simp [z2.1], fun j h1 h2 => ?_⟩
    cases j with
    | zero => exact z1
    | succ j => exact z2.2 j (by simpa using h1) (by simpa using h2)
end
end
/-- a == b -/
def eqD (a b : D) (h : Hh) : Res D := if difL a b h then .ok (.bl false) h else match toD h a, toD h b with
  | some p, some q => if dOk p && dOk q then .ok (.bl (PyData.eqv p q)) h else if isLs p && (sameP p q && decide (p.depth ≤ 150)) then .ok (.bl true) h else .bad
  | _, _ => .bad
def neD (a b : D) (h : Hh) : Res D := if difL a b h then .ok (.bl true) h else match toD h a, toD h b with
  | some p, some q => if dOk p && dOk q then .ok (.bl (!PyData.eqv p q)) h else .bad
  | _, _ => .bad
theorem dep {u a b : Nat} (h : u + 200 < cLine) (ha : a ≤ 150) : u + min a b < cLine := by
  have := Nat.min_le_left a b
  omega
theorem difL_at {pins : List (Addr × Obj)} {σ : L2.St} {s : Shared} {a b : D} {x y : V} {v u : Value} (I : Inv X pins σ H s) (e : difL a b h = true) (hr : HR g w h H) (ra : RV g w H a x) (rb : RV g w H b y) (rx : RelV x v) (ry : RelV y u) :
    ∃ l l' its its', v = .ref l ∧ u = .ref l' ∧ s.heap.IsList l its ∧ s.heap.IsList l' its' ∧ (its.size != its'.size) = true := by
  unfold difL at e
  split at e
  · rename_i xs ys e1 e2
    obtain ⟨l, vs, rfl, q1, t1⟩ := asL_ok e1 hr ra
    obtain ⟨l', vs', rfl, q2, t2⟩ := asL_ok e2 hr rb
    cases rx
    cases ry
    obtain ⟨its, n, r1, g1, _⟩ := lst_at I.hok q1
    obtain ⟨its', n', r2, g2, _⟩ := lst_at I.hok q2
    refine ⟨l, l', its.toArray, its'.toArray, rfl, rfl, ⟨_, g1, rfl, _, rfl⟩, ⟨_, g2, rfl, _, rfl⟩, ?_⟩
    have z1 := t1.length
    have z2 := t2.length
    have z3 := r1.length
    have z4 := r2.length
    simp only [decide_eq_true_eq] at e
    simp only [List.size_toArray, bne_iff_ne, ne_eq]
    omega
  · cases e
theorem eq_ok (xo : XO g X) : OpR X (compareOp .Eq) (rD g E eqD) := by
  intro pins s σ H x y v u Q I rx ry ⟨w, h, a, b, hr, ra, rb, o⟩
  unfold eqD at o
  split at o
  · rename_i hd
    obtain ⟨l, l', its, its', rfl, rfl, i1, i2, i3⟩ := difL_at I hd hr ra rb rx ry
    exact SeqAt.RcAt.lists_lengths i1 i2 i3 (by have := xo.un; omega) _ _ _ _ (fin_b I hr o)
  split at o
  · rename_i p q e1 e2
    split at o
    · rename_i hz
      simp only [dOk, Bool.and_eq_true, decide_eq_true_eq] at hz
      obtain ⟨as, r1⟩ := toD_reads I.hok hr e1 ra rx
      obtain ⟨bs, r2⟩ := toD_reads I.hok hr e2 rb ry
      exact SeqAt.eq_plain r1 r2 hz.1.1 hz.2.1 (dep xo.un hz.1.2) (fin_b I hr o)
    · split at o
      · rename_i hz
        simp only [Bool.and_eq_true, decide_eq_true_eq] at hz
        obtain ⟨hl, hs, hd⟩ := hz
        obtain ⟨as, _, n1⟩ := toD_reads' I.hok hr e1 ra rx
        obtain ⟨bs, _, n2⟩ := toD_reads' I.hok hr e2 rb ry
        have hun := xo.un
        cases n1 with
        | leaf r t => cases r <;> simp [isAt, isLs] at t hl
        | dct0 _ _ _ _ => simp [isLs] at hl
        | tuple _ _ _ _ _ => simp [isLs] at hl
        | @list a _ vs n xs _ h1 h2 h3 h4 h5 =>
          cases n2 with
          | leaf r t => cases r <;> simp [isAt, sameP] at t hs
          | dct0 _ _ _ _ => simp [sameP] at hs
          | tuple _ _ _ _ _ => simp [sameP] at hs
          | @list b _ vs2 n2 ys _ k1 k2 k3 k4 k5 =>
            have z := same_trees (P := X.prog) (wo := X.w) (s := s) (n := 150) h5 k5 (by simpa [sameP] using hs) (by simp only [PyData.depth] at hd; omega)
            refine PySem.W.eq_listsT (n := 150) (e := fun _ => true) ⟨_, h1, h2, _, h3⟩ ⟨_, k1, k2, _, k3⟩ (by simpa using z.1) (fun j i1 i2 => z.2 j i1 i2) (by omega) ?_
            rw [show ((List.range vs.size).all fun _ => true) = true by simp]
            exact fin_b I hr o
      · exact o.elim
  · exact o.elim
theorem ne_ok (xo : XO g X) : OpR X (compareOp .NotEq) (rD g E neD) := by
  intro pins s σ H x y v u Q I rx ry ⟨w, h, a, b, hr, ra, rb, o⟩
  unfold neD at o
  split at o
  · rename_i hd
    obtain ⟨l, l', its, its', rfl, rfl, i1, i2, i3⟩ := difL_at I hd hr ra rb rx ry
    exact SeqAt.RcNeAt.lists_lengths i1 i2 i3 (by have := xo.un; omega) _ _ _ _ (fin_b I hr o)
  split at o
  · rename_i p q e1 e2
    split at o
    · rename_i hz
      simp only [dOk, Bool.and_eq_true, decide_eq_true_eq] at hz
      obtain ⟨as, r1⟩ := toD_reads I.hok hr e1 ra rx
      obtain ⟨bs, r2⟩ := toD_reads I.hok hr e2 rb ry
      exact SeqAt.ne_plain r1 r2 hz.1.1 hz.2.1 (dep xo.un hz.1.2) (fin_b I hr o)
    · exact o.elim
  · exact o.elim
/-- order -/
def isNone : PyData → Bool
  | .none => true
  | _ => false
theorem isNone_ne {p : PyData} (h : isNone p = false) : p ≠ .none := fun e => by subst e; cases h
def cmpD (f : PyData → PyData → Bool) (a b : D) (h : Hh) : Res D := match toD h a, toD h b with
  | some p, some q => if PySem.W.alike p q && !isNone p && decide (p.depth ≤ 150) then .ok (.bl (f p q)) h else .bad
  | _, _ => .bad
theorem cmp_ok (xo : XO g X) {op : CmpOp} {f : PyData → PyData → Bool}
    (rule : ∀ (s : Shared) (a b : Value) (da db : PyData) (as bs : List Addr) (Q : Value → Shared → Prop), Reads s.heap a da as → Reads s.heap b db bs → PySem.W.alike da db = true → da ≠ .none → X.A.units + min da.depth db.depth < cLine →
      Q (.bool (f da db)) s → wpAny (model X.prog X.w) X.A (compareOp op a b) Q X.xe s) : OpR X (compareOp op) (rD g E (cmpD f)) := by
  intro pins s σ H x y v u Q I rx ry ⟨w, h, a, b, hr, ra, rb, o⟩
  unfold cmpD at o
  split at o
  · rename_i p q e1 e2
    split at o
    · rename_i hz
      simp only [Bool.and_eq_true, decide_eq_true_eq, Bool.not_eq_true'] at hz
      obtain ⟨as, r1⟩ := toD_reads I.hok hr e1 ra rx
      obtain ⟨bs, r2⟩ := toD_reads I.hok hr e2 rb ry
      exact rule s v u p q as bs _ r1 r2 hz.1.1 (isNone_ne hz.1.2) (dep xo.un hz.2) (fin_b I hr o)
    · exact o.elim
  · exact o.elim
def ltD := cmpD PySem.W.dataLt
def leD := cmpD fun p q => !PySem.W.dataLt q p
def gtD := cmpD fun p q => PySem.W.dataLt q p
def geD := cmpD fun p q => !PySem.W.dataLt p q
theorem lt_ok (xo : XO g X) : OpR X (compareOp .Lt) (rD g E ltD) := cmp_ok xo fun _ _ _ _ _ _ _ _ r1 r2 h1 h2 h3 q => PySem.W.lt_data r1 r2 h1 h2 h3 q
theorem le_ok (xo : XO g X) : OpR X (compareOp .LtE) (rD g E leD) := cmp_ok xo fun _ _ _ _ _ _ _ _ r1 r2 h1 h2 h3 q => PySem.W.le_data r1 r2 h1 h2 h3 q
theorem gt_ok (xo : XO g X) : OpR X (compareOp .Gt) (rD g E gtD) := cmp_ok xo fun _ _ _ _ _ _ _ _ r1 r2 h1 h2 h3 q => PySem.W.gt_data r1 r2 h1 h2 h3 q
theorem ge_ok (xo : XO g X) : OpR X (compareOp .GtE) (rD g E geD) := cmp_ok xo fun _ _ _ _ _ _ _ _ r1 r2 h1 h2 h3 q => PySem.W.ge_data r1 r2 h1 h2 h3 q
/-- is None -/
def isD (a b : D) (h : Hh) : Res D := match a, b with
  | .val _, _ => .bad
  | .non, .non => .ok (.bl true) h
  | _, .non => .ok (.bl false) h
  | _, _ => .bad
def isnD (a b : D) (h : Hh) : Res D := match a, b with
  | .val _, _ => .bad
  | .non, .non => .ok (.bl false) h
  | _, .non => .ok (.bl true) h
  | _, _ => .bad
theorem rv_none {a : D} {x : V} (r : RV g w H a x) (hv : ∀ v, a ≠ .val v) (hn : a ≠ .non) : x ≠ .non := by
  cases r <;> first | (intro z; cases z; done) | exact absurd rfl hn | exact absurd rfl (hv _)
theorem is_ok : OpR X (compareOp .Is) (rD g E isD) := opr_of fun w H h a b x y Q hr ra rb o => by
  unfold isD at o
  split at o
  · exact o.elim
  · cases ra; cases rb
    exact ⟨_, op_isN, rfl, by simpa using o.keep hr (.bl true)⟩
  · rename_i h1 h2
    cases rb
    have hx := rv_none ra (fun v z => h1 v z) (fun z => h2 z)
    exact ⟨_, op_isN, rfl, by rw [decide_eq_false hx]; exact o.keep hr (.bl false)⟩
  · exact o.elim
theorem isn_ok : OpR X (compareOp .IsNot) (rD g E isnD) := opr_of fun w H h a b x y Q hr ra rb o => by
  unfold isnD at o
  split at o
  · exact o.elim
  · cases ra; cases rb
    exact ⟨_, op_notN, rfl, by simpa using o.keep hr (.bl false)⟩
  · rename_i h1 h2
    cases rb
    have hx := rv_none ra (fun v z => h1 v z) (fun z => h2 z)
    exact ⟨_, op_notN, rfl, by rw [decide_eq_false hx]; exact o.keep hr (.bl true)⟩
  · exact o.elim
end
end Bx
namespace Bx
open PySem PySem.Spec PyProof.Rows L2

def toK : D → Option Key
  | .int i => some (.inl i)
  | .str x => some (.inr x)
  | _ => none
def ofK : Key → D
  | .inl i => .int i
  | .inr x => .str x
def dfind (kds : List (Key × D)) (k : Key) : Option D := (kds.find? fun p => decide (p.1 = k)).map (·.2)
def dput (kds : List (Key × D)) (k : Key) (d : D) : List (Key × D) :=
  if (kds.any fun p => decide (p.1 = k)) = true then kds.map (fun p => if p.1 = k then (p.1, d) else p) else kds ++ [(k, d)]
/-- the entries of a dict -/
def asD (h : Hh) : D → Option (List (Key × D))
  | .dct kds => some kds
  | .ref n => match h[n]? with | some (.dct kds) => some kds | _ => none
  | _ => none

section
variable {g : Gx} {E : XK} {X : Cx} {w : Wd} {H : Hp} {h : Hh} {Q : VK}
theorem toK_ok {d : D} {k : Key} {x : V} (e : toK d = some k) (r : RV g w H d x) : x = kV k := by
  cases r <;> simp [toK] at e <;> subst e <;> rfl
theorem ofK_ok (k : Key) : RV g w H (ofK k) (kV k) := by
  cases k with
  | inl i => exact .int i
  | inr x => exact .str x
theorem asD_ok {d : D} {x : V} {kds : List (Key × D)} (e : asD h d = some kds) (hr : HR g w h H) (r : RV g w H d x) : ∃ a kvs, x = .ref a ∧ Rd H a (.dK kvs) ∧ kvs.map (·.1) = kds.map (·.1) ∧ RVs g w H (kds.map (·.2)) (kvs.map (·.2)) := by
  cases r with
  | dct h1 e1 t => simp [asD] at e; subst e; exact ⟨_, _, rfl, .inr ⟨_, h1⟩, e1, t⟩
  | @ref n a h1 =>
    simp only [asD] at e
    split at e
    · rename_i e2
      cases e
      obtain ⟨_, vs, e3, e4, t⟩ := hr.ob n _ a e2 h1
      exact ⟨a, vs, rfl, .inl e3, e4, t⟩
    · cases e
  | _ => simp [asD] at e
theorem dfind_ok {k : Key} : ∀ {kds : List (Key × D)} {kvs : List (Key × V)}, kvs.map (·.1) = kds.map (·.1) → RVs g w H (kds.map (·.2)) (kvs.map (·.2)) →
    (dfind kds k = none ∧ valV kvs k = none) ∨ ∃ d v, dfind kds k = some d ∧ valV kvs k = some v ∧ RV g w H d v
  | [], [], _, _ => .inl ⟨rfl, rfl⟩
  | [], _ :: _, e, _ => by simp at e
  | _ :: _, [], e, _ => by simp at e
  | p :: kds, q :: kvs, e, r => by
    simp only [List.map_cons, List.cons.injEq] at e
    cases r with
    | cons r1 r2 =>
      by_cases hk : p.1 = k
      · refine .inr ⟨p.2, q.2, ?_, ?_, r1⟩
        · simp [dfind, List.find?_cons, hk]
        · simp [valV, List.find?_cons, e.1, hk]
      · have e1 : dfind (p :: kds) k = dfind kds k := by simp [dfind, List.find?_cons, hk]
        have e2 : valV (q :: kvs) k = valV kvs k := by simp [valV, List.find?_cons, e.1, hk]
        rw [e1, e2]
        exact dfind_ok e.2 r2
theorem any_same {k : Key} : ∀ {kds : List (Key × D)} {kvs : List (Key × V)}, kvs.map (·.1) = kds.map (·.1) → (kds.any fun p => decide (p.1 = k)) = kvs.any fun p => decide (p.1 = k)
  | [], [], _ => rfl
  | [], _ :: _, e => by simp at e
  | _ :: _, [], e => by simp at e
  | p :: kds, q :: kvs, e => by
    simp only [List.map_cons, List.cons.injEq] at e
    rw [List.any_cons, List.any_cons, e.1, any_same e.2]
theorem map_same {k : Key} {d : D} {v : V} (rv : RV g w H d v) : ∀ {kds : List (Key × D)} {kvs : List (Key × V)}, kvs.map (·.1) = kds.map (·.1) → RVs g w H (kds.map (·.2)) (kvs.map (·.2)) →
    (kvs.map fun p => if p.1 = k then (p.1, v) else p).map (·.1) = (kds.map fun p => if p.1 = k then (p.1, d) else p).map (·.1) ∧
      RVs g w H ((kds.map fun p => if p.1 = k then (p.1, d) else p).map (·.2)) ((kvs.map fun p => if p.1 = k then (p.1, v) else p).map (·.2))
  | [], [], _, _ => ⟨rfl, .nil⟩
  | [], _ :: _, e, _ => by simp at e
  | _ :: _, [], e, _ => by simp at e
  | p :: kds, q :: kvs, e, r => by
    simp only [List.map_cons, List.cons.injEq] at e
    cases r with
    | cons r1 r2 =>
      obtain ⟨a, b⟩ := map_same rv e.2 r2
      simp only [List.map_cons, e.1]
      by_cases hk : p.1 = k
      · rw [if_pos hk, if_pos hk]
        exact ⟨by rw [a], .cons rv b⟩
      · rw [if_neg hk, if_neg hk]
        exact ⟨by rw [a, e.1], .cons r1 b⟩
theorem dput_ok {k : Key} {d : D} {v : V} {kds : List (Key × D)} {kvs : List (Key × V)} (e : kvs.map (·.1) = kds.map (·.1)) (r : RVs g w H (kds.map (·.2)) (kvs.map (·.2))) (rv : RV g w H d v) :
    (putK kvs k v).map (·.1) = (dput kds k d).map (·.1) ∧ RVs g w H ((dput kds k d).map (·.2)) ((putK kvs k v).map (·.2)) := by
  unfold putK dput
  rw [any_same e]
  split
  · exact map_same rv e r
  · rw [List.map_append, List.map_append, List.map_append, List.map_append, e]
    exact ⟨rfl, r.append (.cons rv .nil)⟩

def inB (a c : D) (h : Hh) : Option Bool := match c with
  | .str z => match a with
    | .str y => match y.cps.toList with
      | [s] => some (decide (s ∈ z.cps.toList))
      | _ => some (!(Builtin.Str.occurrences z y 0 z.length 1).isEmpty)
    | _ => none
  | c => match asD h c with
    | some kds => match toK a with
      | some k => some (dfind kds k).isSome
      | none => none
    | none => match toD h a, toD h c with
      | some p, some (.list ps) => if dOk p && PyData.plainAll ps then some (ps.any fun y => PyData.eqv y p) else none
      | some p, some (.tuple ps) => if dOk p && PyData.plainAll ps then some (ps.any fun y => PyData.eqv y p) else none
      | _, _ => none
def inD (a c : D) (h : Hh) : Res D := match inB a c h with | some b => .ok (.bl b) h | none => .bad
def ninD (a c : D) (h : Hh) : Res D := match inB a c h with | some b => .ok (.bl (!b)) h | none => .bad
theorem str_one {y : Str} {s : Nat} (e : y.cps.toList = [s]) : y = ⟨#[s]⟩ := by
  cases y with | mk c => cases c with | mk l => simp at e; subst e; rfl
theorem in_core (xo : XO g X) {pins : List (Addr × Obj)} {s : Shared} {σ : L2.St} {x y : V} {v u : Value} {a c : D} {b : Bool} (I : Inv X pins σ H s) (rx : RelV x v) (ry : RelV y u) (hr : HR g w h H) (ra : RV g w H a x) (rc : RV g w H c y) (e : inB a c h = some b)
    (Q1 Q2 : Value → Shared → Prop) (q1 : ∀ s', Inv X pins σ H s' → Q1 (.bool b) s') (q2 : ∀ s', Inv X pins σ H s' → Q2 (.bool (!b)) s') :
    wpAny (model X.prog X.w) X.A (compareOp .In v u) Q1 X.xe s ∧ wpAny (model X.prog X.w) X.A (compareOp .NotIn v u) Q2 X.xe s := by
  have dat : ∀ (h2 : (match toD h a, toD h c with
      | some p, some (.list ps) => if dOk p && PyData.plainAll ps then some (ps.any fun y => PyData.eqv y p) else none
      | some p, some (.tuple ps) => if dOk p && PyData.plainAll ps then some (ps.any fun y => PyData.eqv y p) else none
      | _, _ => none) = some b), wpAny (model X.prog X.w) X.A (compareOp .In v u) Q1 X.xe s ∧ wpAny (model X.prog X.w) X.A (compareOp .NotIn v u) Q2 X.xe s := by
    intro h2
    split at h2
    · rename_i p ps e1 e2
      split at h2
      · rename_i hz
        cases h2
        simp only [dOk, Bool.and_eq_true, decide_eq_true_eq] at hz
        obtain ⟨as, r1⟩ := toD_reads I.hok hr e1 ra rx
        obtain ⟨bs, r2⟩ := toD_reads I.hok hr e2 rc ry
        have hu : X.A.units + 1 + min (PyData.depthAll ps) p.depth < cLine := by
          have := xo.un
          have := Nat.min_le_right (PyData.depthAll ps) p.depth
          omega
        exact ⟨SeqAt.in_list_data r2 r1 hz.2 hz.1.1 hu (q1 s I), SeqAt.notIn_list_data r2 r1 hz.2 hz.1.1 hu (q2 s I)⟩
      · cases h2
    · rename_i p ps e1 e2
      split at h2
      · rename_i hz
        cases h2
        simp only [dOk, Bool.and_eq_true, decide_eq_true_eq] at hz
        obtain ⟨as, r1⟩ := toD_reads I.hok hr e1 ra rx
        obtain ⟨bs, r2⟩ := toD_reads I.hok hr e2 rc ry
        have hu : X.A.units + 1 + min (PyData.depthAll ps) p.depth < cLine := by
          have := xo.un
          have := Nat.min_le_right (PyData.depthAll ps) p.depth
          omega
        exact ⟨SeqAt.in_tuple_data r2 r1 hz.2 hz.1.1 hu (q1 s I), SeqAt.notIn_tuple_data r2 r1 hz.2 hz.1.1 hu (q2 s I)⟩
      · cases h2
    · cases h2
  have gen : ∀ (h3 : (match asD h c with
    | some kds => match toK a with
      | some k => some (dfind kds k).isSome
      | none => none
    | none => match toD h a, toD h c with
      | some p, some (.list ps) => if dOk p && PyData.plainAll ps then some (ps.any fun y => PyData.eqv y p) else none
      | some p, some (.tuple ps) => if dOk p && PyData.plainAll ps then some (ps.any fun y => PyData.eqv y p) else none
      | _, _ => none) = some b), wpAny (model X.prog X.w) X.A (compareOp .In v u) Q1 X.xe s ∧ wpAny (model X.prog X.w) X.A (compareOp .NotIn v u) Q2 X.xe s := by
    intro h3
    split at h3
    · rename_i kds e1
      split at h3
      · rename_i k e2
        cases h3
        obtain ⟨p, kvs, rfl, hp, ek, t⟩ := asD_ok e1 hr rc
        cases ry
        have ex := toK_ok e2 ra
        subst ex
        have hu : X.A.units + 1 < cLine := by have := xo.un; omega
        have eq : (valV kvs k).isSome = (dfind kds k).isSome := by
          rcases dfind_ok (k := k) ek t with ⟨z1, z2⟩ | ⟨d, v, z1, z2, _⟩ <;> rw [z1, z2] <;> rfl
        have dg : DGet H p (kV k) (valV kvs k) := .inl ⟨kvs, k, hp, rfl, rfl⟩
        exact ⟨d_in hu I dg rx fun s' I' => by rw [eq]; exact q1 s' I', d_notIn hu I dg rx fun s' I' => by rw [eq]; exact q2 s' I'⟩
      · cases h3
    · exact dat h3
  unfold inB at e
  split at e
  · cases rc
    split at e
    · cases ra
      split at e
      · rename_i y s0 e1
        have ey := str_one e1
        cases e
        subst ey
        exact ⟨thn (op_in_sign pins s σ H _ _ _ _ (fun r H' => r = .bl _ ∧ H' = H) I rx ry ⟨_, _, rfl, rfl, rfl, rfl⟩) (fun r s' ⟨rv, H', I', r1, e1, e2⟩ => by subst e1 e2; cases r1; exact q1 s' I'),
          thn (op_notIn_sign pins s σ H _ _ _ _ (fun r H' => r = .bl _ ∧ H' = H) I rx ry ⟨_, _, rfl, rfl, rfl, rfl⟩) (fun r s' ⟨rv, H', I', r1, e1, e2⟩ => by subst e1 e2; cases r1; exact q2 s' I')⟩
      · cases e
        exact ⟨thn (op_in_str pins s σ H _ _ _ _ (fun r H' => r = .bl _ ∧ H' = H) I rx ry ⟨_, _, rfl, rfl, rfl, rfl⟩) (fun r s' ⟨rv, H', I', r1, e1, e2⟩ => by subst e1 e2; cases r1; exact q1 s' I'),
          thn (op_notin_str pins s σ H _ _ _ _ (fun r H' => r = .bl _ ∧ H' = H) I rx ry ⟨_, _, rfl, rfl, rfl, rfl⟩) (fun r s' ⟨rv, H', I', r1, e1, e2⟩ => by subst e1 e2; cases r1; exact q2 s' I')⟩
    · cases e
  · exact gen e
theorem in_ok (xo : XO g X) : OpR X (compareOp .In) (rD g E inD) := by
  intro pins s σ H x y v u Q I rx ry ⟨w, h, a, b, hr, ra, rb, o⟩
  unfold inD at o
  split at o
  · rename_i b e
    exact (in_core xo I rx ry hr ra rb e _ (fun _ _ => True) (fun s' I' => fin_b I' hr o) (fun _ _ => trivial)).1
  · exact o.elim
theorem nin_ok (xo : XO g X) : OpR X (compareOp .NotIn) (rD g E ninD) := by
  intro pins s σ H x y v u Q I rx ry ⟨w, h, a, b, hr, ra, rb, o⟩
  unfold ninD at o
  split at o
  · rename_i b e
    exact (in_core xo I rx ry hr ra rb e (fun _ _ => True) _ (fun _ _ => trivial) (fun s' I' => fin_b I' hr o)).2
  · exact o.elim

def idxD (a b : D) (h : Hh) : Res D := match b with
  | .int i => match a with
    | .str z => match atI z.cps.toList i with
      | some c => if sz z.length then .ok (.str ⟨#[c]⟩) h else .bad
      | none => .bad
    | a => match asS h a with
      | some ds => match atI ds i with
        | some d => .ok d h
        | none => .bad
      | none => match asD h a with
        | some kds => match dfind kds (.inl i) with
          | some d => .ok d h
          | none => .bad
        | none => .bad
  | b => match asD h a, toK b with
    | some kds, some k => match dfind kds k with
      | some d => .ok d h
      | none => .bad
    | _, _ => .bad
theorem RVs.atI {ds : List D} {vs : List V} {i : Int} {d : D} (r : RVs g w H ds vs) (e : atI ds i = some d) : ∃ v, atI vs i = some v ∧ RV g w H d v := by
  unfold L2.atI at e ⊢
  rw [← r.length]
  simp only [Option.bind_eq_some_iff] at e ⊢
  obtain ⟨j, e1, e2⟩ := e
  obtain ⟨v, e3, rv⟩ := r.get e2
  exact ⟨v, ⟨j, e1, e3⟩, rv⟩
theorem idx_ok (xo : XO g X) {a b : Expr} {ta tb : TE} {pos : Pos} (ha : PE X a ta) (hb : PE X b tb) (hs : PlainIx b) : PE X (.Subscript a b pos) (tOp (rD g E idxD) ta tb) := by
  have hx : IxR X (fun x y H Q => rD g E idxD x y H Q ∧ ((∃ p xs i v, x = .ref p ∧ y = .int i ∧ SqL X.K H p xs ∧ L2.atI xs i = some v ∧ Q v H) ∨ (∃ p xs i v, x = .ref p ∧ y = .int i ∧ SqT X.K H p xs ∧ L2.atI xs i = some v ∧ Q v H) ∨ rIxS x y H Q)) := by
    intro value slice pins s σ H x y v u Q I rx ry ⟨_, q⟩ hs
    exact ix_seq value slice pins s σ H x y v u Q I rx ry q hs
  have hu : X.A.units + 1 < cLine := by have := xo.un; omega
  refine ⟨fun pins s σ H Q I h => ?_⟩
  have all : ∀ {H2 : Hp} {s2 : Shared} {x y : V} {v u : Value}, Inv X pins σ H2 s2 → RelV x v → RelV y u → rD g E idxD x y H2 Q → wpAny (model X.prog X.w) X.A (subscriptTail a b v u) (EP X pins σ Q) X.xe s2 := by
    intro H2 s2 x y v u I2 rx ry ⟨w, h, d, e, hr, rd, re, o⟩
    have dic : ∀ {kds : List (Key × D)} {k : Key} {d' : D}, asD h d = some kds → toK e = some k → dfind kds k = some d' → OKg g (RV g) w H2 E Q (.ok d' h) → wpAny (model X.prog X.w) X.A (subscriptTail a b v u) (EP X pins σ Q) X.xe s2 := by
      intro kds k d' e1 e2 e3 o'
      obtain ⟨p, kvs, rfl, hp, ek, t⟩ := asD_ok e1 hr rd
      cases rx
      have ex := toK_ok e2 re
      subst ex
      rcases dfind_ok (k := k) ek t with ⟨z1, z2⟩ | ⟨d2, v2, z1, z2, rv2⟩
      · rw [z1] at e3; cases e3
      · rw [z1] at e3
        cases e3
        have dg : DGet H2 p (kV k) (some v2) := .inl ⟨kvs, k, hp, rfl, z2.symm⟩
        exact tail_any (ops := [.ref p, u]) (dict_typeIs I2 dg) PySem.F.slot_dict_getitem.lookup (d_getItem hu I2 dg ry fun w' s3 I3 rw' => ⟨v2, H2, I3, rw', o'.keep hr rv2⟩) (hs _ _)
    unfold idxD at o
    split at o
    · cases re
      split at o
      · cases rd
        split at o
        · rename_i e1
          split at o
          · rename_i hz
            exact ix_str a b pins s2 σ H2 _ _ v u Q I2 rx ry ⟨_, _, _, rfl, rfl, sz_le hz, e1, o.keep hr (.str _)⟩ (hs _ _)
          · exact o.elim
        · exact o.elim
      · split at o
        · rename_i e1
          split at o
          · rename_i e2
            obtain ⟨p, vs, rfl, hq, t⟩ := asS_ok (K := X.K) e1 hr rd
            obtain ⟨v', e3, rv⟩ := t.atI e2
            rcases hq with hq | hq
            · exact ix_list a b pins s2 σ H2 _ _ v u Q I2 rx ry ⟨_, _, _, _, rfl, rfl, hq, e3, o.keep hr rv⟩ (hs _ _)
            · exact ix_tup a b pins s2 σ H2 _ _ v u Q I2 rx ry ⟨_, _, _, _, rfl, rfl, hq, e3, o.keep hr rv⟩ (hs _ _)
          · exact o.elim
        · split at o
          · rename_i e1
            split at o
            · rename_i e2
              exact dic e1 rfl e2 o
            · exact o.elim
          · exact o.elim
    · split at o
      · rename_i e1 e2
        split at o
        · rename_i e3
          exact dic e1 e2 e3 o
        · exact o.elim
      · exact o.elim
  exact Subscript_ (binT ha hb I h fun v u s2 x y H2 I2 rx ry q => all I2 rx ry q)

def slcD (a : D) (lo hi : Option Int) (h : Hh) : Res D := match a with
  | .str z => if sz z.length then .ok (.str (cutS z lo hi)) h else .bad
  | .tup ds => .ok (.tup ((ds.drop (HT.sIx ds.length 0 lo)).take (HT.sIx ds.length ds.length hi - HT.sIx ds.length 0 lo))) h
  | .scr ns => .ok (.lst (((ns.drop (HT.sIx ns.length 0 lo)).take (HT.sIx ns.length ns.length hi - HT.sIx ns.length 0 lo)).map .int)) h
  | a => match asL h a with
    | some ds => .ok (.lst ((ds.drop (HT.sIx ds.length 0 lo)).take (HT.sIx ds.length ds.length hi - HT.sIx ds.length 0 lo))) h
    | none => .bad
def rSl1 (g : Gx) (E : XK) : V → Option Int → Option Int → Hp → VK → Prop := fun x lo hi H Q => ∃ w h a, HR g w h H ∧ RV g w H a x ∧ OKg g (RV g) w H E Q (slcD a lo hi h)
theorem RVs.ints : ∀ (ns : List Int), RVs g w H (ns.map .int) (ns.map V.int)
  | [] => .nil
  | n :: ns => .cons (.int n) (RVs.ints ns)
theorem cut_ok {ds : List D} {vs : List V} (t : RVs g w H ds vs) (lo hi : Option Int) : RVs g w H ((ds.drop (HT.sIx ds.length 0 lo)).take (HT.sIx ds.length ds.length hi - HT.sIx ds.length 0 lo)) (cutV vs lo hi) := by
  unfold cutV
  rw [← t.length]
  exact (t.drop _).take _
theorem cut_all {α : Type} {ds : List α} {lo hi : Option Int} (e : HT.sIx ds.length 0 lo = 0 ∧ HT.sIx ds.length ds.length hi = ds.length) : (ds.drop (HT.sIx ds.length 0 lo)).take (HT.sIx ds.length ds.length hi - HT.sIx ds.length 0 lo) = ds := by
  rw [e.1, e.2]; simp
theorem slc_ok (xo : XO g X) : SlR X (rSl1 g E) := by
  intro pins s σ H x v vl vu lo hi sl Q I rx hs pl pu ⟨w, h, a, hr, ra, o⟩
  unfold slcD at o
  split at o
  · cases ra
    split at o
    · rename_i hz
      exact sl_str pins s σ H _ v vl vu lo hi sl Q I rx hs pl pu ⟨_, rfl, sz_le hz, o.keep hr (.str _)⟩
    · exact o.elim
  · rename_i ds
    obtain ⟨p, vs, rfl, hp, t⟩ := rv_tup ra
    refine sl_tupA pins s σ H _ v vl vu lo hi sl Q I rx hs pl pu ⟨p, vs, rfl, .inl (.inl hp), fun e => ?_, fun _ => o.tup hr (cut_ok t lo hi)⟩
    rw [← t.length] at e
    rw [cut_all e] at o
    exact o.keep hr ra
  · rename_i ns
    cases ra with
    | @scr p _ hp =>
      refine sl_list pins s σ H _ v vl vu lo hi sl Q I rx hs pl pu ⟨p, ns.map V.int, rfl, by rw [xo.K]; exact hp.sq, ?_⟩
      have e : cutV (ns.map V.int) lo hi = ((ns.drop (HT.sIx ns.length 0 lo)).take (HT.sIx ns.length ns.length hi - HT.sIx ns.length 0 lo)).map V.int := by
        unfold cutV
        rw [List.length_map, List.map_take, List.map_drop]
      rw [e]
      exact o.lst hr (RVs.ints _)
  · split at o
    · rename_i e1
      obtain ⟨p, vs, rfl, hp, t⟩ := asL_ok e1 hr ra
      exact sl_list pins s σ H _ v vl vu lo hi sl Q I rx hs pl pu ⟨p, vs, rfl, .inl (.inl hp), o.lst hr (cut_ok t lo hi)⟩
    · exact o.elim
end
end Bx
namespace Bx
open PySem PySem.Spec PyProof.Rows L2

/-- the built-in calls -/
inductive Bi where
  | len | list | nlist | tuple | sum | max | min | abs | int | sorted | nsorted | repr | all | any | isi
  deriving DecidableEq, Inhabited

/-- the built-in value that is called -/
def biV : Bi → Value
  | .len => .builtin "len"
  | .list => .type "list"
  | .nlist => .type "list"
  | .tuple => .type "tuple"
  | .sum => .builtin "sum"
  | .max => .builtin "max"
  | .min => .builtin "min"
  | .abs => .builtin "abs"
  | .int => .type "int"
  | .sorted => .builtin "sorted"
  | .nsorted => .builtin "sorted"
  | .repr => .builtin "repr"
  | .all => .builtin "all"
  | .any => .builtin "any"
  | .isi => .builtin "isinstance"
def biN : Bi → Str
  | .len => "len"
  | .list => "list"
  | .nlist => "list"
  | .tuple => "tuple"
  | .sum => "sum"
  | .max => "max"
  | .min => "min"
  | .abs => "abs"
  | .int => "int"
  | .sorted => "sorted"
  | .nsorted => "sorted"
  | .repr => "repr"
  | .all => "all"
  | .any => "any"
  | .isi => "isinstance"
theorem bi_boot (b : Bi) : bootBuiltins (biN b) = some (biV b) := by cases b <;> decide +kernel

def intsOf : List D → Option (List Int)
  | [] => some []
  | .int i :: ds => (intsOf ds).map (i :: ·)
  | _ :: _ => none
def strsOf : List D → Option (List Str)
  | [] => some []
  | .str i :: ds => (strsOf ds).map (i :: ·)
  | _ :: _ => none
def blsOf : List D → Option (List Bool)
  | [] => some []
  | .bl i :: ds => (blsOf ds).map (i :: ·)
  | _ :: _ => none
section
variable {g : Gx} {E : XK} {X : Cx} {w : Wd} {H : Hp} {h : Hh} {Q : VK}
theorem intsOf_eq : ∀ {ds : List D} {ns : List Int}, intsOf ds = some ns → ds = ns.map .int
  | [], _, e => by cases e; rfl
  | .int i :: ds, ns, e => by
    simp only [intsOf, Option.map_eq_some_iff] at e
    obtain ⟨r, e1, rfl⟩ := e
    rw [intsOf_eq e1]; rfl
  | .non :: _, _, e | .bl _ :: _, _, e | .str _ :: _, _, e | .tup _ :: _, _, e | .lst _ :: _, _, e | .dct _ :: _, _, e | .obj _ _ :: _, _, e | .exn _ _ :: _, _, e | .ref _ :: _, _, e | .scr _ :: _, _, e | .val _ :: _, _, e => by simp [intsOf] at e
theorem strsOf_eq : ∀ {ds : List D} {ns : List Str}, strsOf ds = some ns → ds = ns.map .str
  | [], _, e => by cases e; rfl
  | .str i :: ds, ns, e => by
    simp only [strsOf, Option.map_eq_some_iff] at e
    obtain ⟨r, e1, rfl⟩ := e
    rw [strsOf_eq e1]; rfl
  | .non :: _, _, e | .bl _ :: _, _, e | .int _ :: _, _, e | .tup _ :: _, _, e | .lst _ :: _, _, e | .dct _ :: _, _, e | .obj _ _ :: _, _, e | .exn _ _ :: _, _, e | .ref _ :: _, _, e | .scr _ :: _, _, e | .val _ :: _, _, e => by simp [strsOf] at e
theorem blsOf_eq : ∀ {ds : List D} {ns : List Bool}, blsOf ds = some ns → ds = ns.map .bl
  | [], _, e => by cases e; rfl
  | .bl i :: ds, ns, e => by
    simp only [blsOf, Option.map_eq_some_iff] at e
    obtain ⟨r, e1, rfl⟩ := e
    rw [blsOf_eq e1]; rfl
  | .non :: _, _, e | .str _ :: _, _, e | .int _ :: _, _, e | .tup _ :: _, _, e | .lst _ :: _, _, e | .dct _ :: _, _, e | .obj _ _ :: _, _, e | .exn _ _ :: _, _, e | .ref _ :: _, _, e | .scr _ :: _, _, e | .val _ :: _, _, e => by simp [blsOf] at e
@[simp] theorem intsOf_map (ns : List Int) : intsOf (ns.map .int) = some ns := by induction ns with | nil => rfl | cons n ns ih => simp [intsOf, ih]
@[simp] theorem strsOf_map (ns : List Str) : strsOf (ns.map .str) = some ns := by induction ns with | nil => rfl | cons n ns ih => simp [strsOf, ih]
@[simp] theorem blsOf_map (ns : List Bool) : blsOf (ns.map .bl) = some ns := by induction ns with | nil => rfl | cons n ns ih => simp [blsOf, ih]
theorem RVs.toInts : ∀ {ns : List Int} {vs : List V}, RVs g w H (ns.map .int) vs → vs = ns.map V.int
  | [], _, r => by cases r; rfl
  | n :: ns, _, r => by cases r with | cons r1 r2 => cases r1; rw [RVs.toInts r2]; rfl
theorem RVs.toStrs : ∀ {ns : List Str} {vs : List V}, RVs g w H (ns.map .str) vs → vs = ns.map V.str
  | [], _, r => by cases r; rfl
  | n :: ns, _, r => by cases r with | cons r1 r2 => cases r1; rw [RVs.toStrs r2]; rfl
theorem RVs.toBls : ∀ {ns : List Bool} {vs : List V}, RVs g w H (ns.map .bl) vs → vs = ns.map V.bl
  | [], _, r => by cases r; rfl
  | n :: ns, _, r => by cases r with | cons r1 r2 => cases r1; rw [RVs.toBls r2]; rfl
theorem RVs.strs : ∀ (ns : List Str), RVs g w H (ns.map .str) (ns.map V.str)
  | [] => .nil
  | n :: ns => .cons (.str n) (RVs.strs ns)

/-- the greatest, the least -/
def maxI : List Int → Option Int
  | [] => none
  | n :: ns => some (ns.foldl Max.max n)
def minI : List Int → Option Int
  | [] => none
  | n :: ns => some (ns.foldl Min.min n)
theorem foldl_max : ∀ (ns : List Int) (n m : Int), (m = n ∨ m ∈ ns) → n ≤ m → (∀ y ∈ ns, y ≤ m) → ns.foldl Max.max n = m
  | [], n, m, h1, _, _ => by rcases h1 with h1 | h1; exact h1.symm; cases h1
  | x :: ns, n, m, h1, h2, h3 => by
    rw [List.foldl_cons]
    have hx : x ≤ m := h3 x (by simp)
    refine foldl_max ns _ m ?_ (by omega) (fun y hy => h3 y (by simp [hy]))
    rcases h1 with h1 | h1
    · left; omega
    · rcases List.mem_cons.mp h1 with h1 | h1
      · left; omega
      · exact .inr h1
theorem foldl_min : ∀ (ns : List Int) (n m : Int), (m = n ∨ m ∈ ns) → m ≤ n → (∀ y ∈ ns, m ≤ y) → ns.foldl Min.min n = m
  | [], n, m, h1, _, _ => by rcases h1 with h1 | h1; exact h1.symm; cases h1
  | x :: ns, n, m, h1, h2, h3 => by
    rw [List.foldl_cons]
    have hx : m ≤ x := h3 x (by simp)
    refine foldl_min ns _ m ?_ (by omega) (fun y hy => h3 y (by simp [hy]))
    rcases h1 with h1 | h1
    · left; omega
    · rcases List.mem_cons.mp h1 with h1 | h1
      · left; omega
      · exact .inr h1
theorem maxI_of {ns : List Int} {k m : Int} (e : maxI ns = some k) (h1 : m ∈ ns) (h2 : ∀ y ∈ ns, y ≤ m) : m = k := by
  cases ns with
  | nil => cases e
  | cons n ns =>
    simp only [maxI, Option.some.injEq] at e
    rw [← e]
    exact (foldl_max ns n m (List.mem_cons.mp h1) (h2 n (by simp)) (fun y hy => h2 y (by simp [hy]))).symm
theorem minI_of {ns : List Int} {k m : Int} (e : minI ns = some k) (h1 : m ∈ ns) (h2 : ∀ y ∈ ns, m ≤ y) : m = k := by
  cases ns with
  | nil => cases e
  | cons n ns =>
    simp only [minI, Option.some.injEq] at e
    rw [← e]
    exact (foldl_min ns n m (List.mem_cons.mp h1) (h2 n (by simp)) (fun y hy => h2 y (by simp [hy]))).symm

def alikes : List PyData → Bool := fun ps => ps.all fun p => ps.all fun q => PySem.W.alike p q
def sortable (ps : List PyData) : Bool := (ps.all fun p => match p with | .tuple (_ :: _) => true | _ => false) || (ps.all fun p => match p with | .none => false | .tuple _ => false | _ => true)
theorem alikes_ok {ps : List PyData} (e : alikes ps = true) : PySem.W.AllAlike ps := fun d hd d' hd' => by
  simp only [alikes, List.all_eq_true] at e
  exact e d hd d' hd'
theorem sortable_ok {ps : List PyData} (e : sortable ps = true) : PySem.W.Sortable ps := by
  simp only [sortable, Bool.or_eq_true, List.all_eq_true] at e
  rcases e with e | e
  · refine .inl fun d hd => ?_
    have := e d hd
    split at this
    · exact ⟨_, _, rfl⟩
    · cases this
  · refine .inr fun d hd => ?_
    have := e d hd
    constructor
    · intro z; subst z; cases this
    · intro xs z; subst z; cases this
/-- the sorted items -/
def sortD (bs : List (D × PyData)) : List (D × PyData) := bs.mergeSort (PySem.W.dataLe false (·.2))
def sortedL (h : Hh) (ds : List D) : Option (List D) := match toDs h ds with
  | some ps => if alikes ps && sortable ps && (ps.all fun p => decide (p.depth ≤ 150)) then some ((sortD (ds.zip ps)).map (·.1)) else none
  | none => none

/-- a value's built-in type -/
def tyN (h : Hh) : D → Option String
  | .non => some "NoneType"
  | .bl _ => some "bool"
  | .int _ => some "int"
  | .str _ => some "str"
  | .tup _ => some "tuple"
  | .lst _ => some "list"
  | .dct _ => some "dict"
  | .scr _ => none
  | .ref n => match h[n]? with | some (.lst _) => some "list" | some (.dct _) => some "dict" | _ => none
  | .obj _ _ => none
  | .exn _ _ => none
  | .val _ => none
theorem tyN_ok {K : PySem.W.Frag} {d : D} {x : V} {n : String} (e : tyN h d = some n) (hr : HR g w h H) (r : RV g w H d x) : TyX K H x (.type n) := by
  cases r with
  | non => simp [tyN] at e; subst e; exact .base .non
  | bl b => simp [tyN] at e; subst e; exact .base (.bl b)
  | int i => simp [tyN] at e; subst e; exact .base (.int i)
  | str y => simp [tyN] at e; subst e; exact .base (.str y)
  | tup h1 _ => simp [tyN] at e; subst e; exact .base (.tup h1)
  | lst h1 _ _ => simp [tyN] at e; subst e; exact .base (.lst h1)
  | dct h1 _ _ =>
    simp [tyN] at e; subst e
    exact .fDict h1
  | scr h1 => simp [tyN] at e
  | @ref k a h1 =>
    simp only [tyN] at e
    split at e
    · rename_i e1
      cases e
      obtain ⟨_, vs, e2, _⟩ := hr.ob k _ a e1 h1
      exact .base (.lst e2)
    · rename_i e1
      cases e
      obtain ⟨_, vs, e2, _⟩ := hr.ob k _ a e1 h1
      exact .base (.dK e2)
    · cases e
  | obj _ _ _ _ _ => simp [tyN] at e
  | exn _ _ _ _ => simp [tyN] at e
  | val _ => simp [tyN] at e

/-- what a built-in call gives -/
def bLen (ds : List D) (h : Hh) : Res D := match ds with
  | [d] => match d with
    | .str z => if sz z.length then .ok (.int z.length) h else .bad
    | d => match asS h d with
      | some ds => .ok (.int ds.length) h
      | none => match asD h d with
        | some kds => .ok (.int kds.length) h
        | none => .bad
  | _ => .bad
def bSeq (f : List D → Res D) (ds : List D) (h : Hh) : Res D := match ds with
  | [d] => match asS h d with
    | some ds => f ds
    | none => .bad
  | _ => .bad
def bInts (f : List Int → Res D) (ds : List D) (h : Hh) : Res D := match ds with
  | [d] => match asL h d with
    | some ds => match intsOf ds with
      | some ns => f ns
      | none => .bad
    | none => .bad
  | _ => .bad
def bBls (f : List Bool → Res D) (ds : List D) (h : Hh) : Res D := match ds with
  | [d] => match asL h d with
    | some ds => match blsOf ds with
      | some ns => f ns
      | none => .bad
    | none => .bad
  | _ => .bad
def bSrt (f : List D → Res D) (ds : List D) (h : Hh) : Res D := match ds with
  | [d] => match asL h d with
    | some ds => match sortedL h ds with
      | some es => f es
      | none => .bad
    | none => .bad
  | _ => .bad
def bAbs (ds : List D) (h : Hh) : Res D := match ds with
  | [.int i] => .ok (.int (if i < 0 then -i else i)) h
  | _ => .bad
def bInt (ds : List D) (h : Hh) : Res D := match ds with
  | [.int i] => .ok (.int i) h
  | [.bl k] => .ok (.int (if k then 1 else 0)) h
  | _ => .bad
def bRepr (ds : List D) (h : Hh) : Res D := match ds with
  | [d] => match toD h d with
    | some p => if p.showable && sz p.shown.length && decide (p.depth ≤ 150) then .ok (.str p.shown) h else .bad
    | none => .bad
  | _ => .bad
def bIsi (ds : List D) (h : Hh) : Res D := match ds with
  | [d, .val (.ty c)] => match tyN h d with
    | some n => match kitB n c with
      | some b => .ok (.bl b) h
      | none => .bad
    | none => .bad
  | _ => .bad
def optI (o : Option Int) (h : Hh) : Res D := match o with
  | some k => .ok (.int k) h
  | none => .bad
def biS (b : Bi) (ds : List D) (h : Hh) : Res D := match b with
  | .len => bLen ds h
  | .list => bSeq (fun es => .ok (.lst es) h) ds h
  | .nlist => bSeq (fun es => .ok (.ref h.length) (h ++ [.lst es])) ds h
  | .tuple => bSeq (fun es => .ok (.tup es) h) ds h
  | .sum => bInts (fun ns => .ok (.int ns.sum) h) ds h
  | .max => bInts (fun ns => optI (maxI ns) h) ds h
  | .min => bInts (fun ns => optI (minI ns) h) ds h
  | .abs => bAbs ds h
  | .int => bInt ds h
  | .sorted => bSrt (fun es => .ok (.lst es) h) ds h
  | .nsorted => bSrt (fun es => .ok (.ref h.length) (h ++ [.lst es])) ds h
  | .repr => bRepr ds h
  | .all => bBls (fun bs => .ok (.bl (bs.all id)) h) ds h
  | .any => bBls (fun bs => .ok (.bl (bs.any id)) h) ds h
  | .isi => bIsi ds h
theorem callr_of {f : Value} {fd : List D → Hh → Res D}
    (hh : ∀ (w : Wd) (H : Hp) (h : Hh) (ds : List D) (xs : List V) (Q : VK), HR g w h H → RVs g w H ds xs → OKg g (RV g) w H E Q (fd ds h) → ∃ r, CallR X f r ∧ r xs H Q) : CallR X f (rC g E fd) := by
  intro pins s σ H xs us Q I rx ⟨w, h, ds, hr, ra, o⟩
  obtain ⟨r, hop, q⟩ := hh w H h ds xs Q hr ra o
  exact hop pins s σ H xs us Q I rx q
theorem rvs1 {d : D} {xs : List V} (r : RVs g w H [d] xs) : ∃ x, xs = [x] ∧ RV g w H d x := by
  cases r with | cons r1 r2 => cases r2; exact ⟨_, rfl, r1⟩
theorem rvs2 {d e : D} {xs : List V} (r : RVs g w H [d, e] xs) : ∃ x y, xs = [x, y] ∧ RV g w H d x ∧ RV g w H e y := by
  cases r with | cons r1 r2 => cases r2 with | cons r3 r4 => cases r4; exact ⟨_, _, rfl, r1, r3⟩
theorem call_lenR : CallR X (.builtin "len") (fun xs H Q => ∃ a kvs, xs = [V.ref a] ∧ Rd H a (.dK kvs) ∧ Q (.int kvs.length) H) := by
  intro pins s σ H xs us Q I r ⟨a, kvs, ex, e, q⟩
  subst ex
  obtain ⟨u, rfl, ru⟩ := vals1 r
  cases ru
  exact d_len I e fun t s' I' => ⟨.int kvs.length, H, I', ⟨t, rfl⟩, q⟩
theorem zip_reads {hp : Heap} : ∀ {ds : List D} {ps : List PyData} {vs : List V} {us : List Value} {as : List Addr}, RVs g w H ds vs → Vals vs us → ReadsAll hp us ps as →
    PySem.W.EachIs (fun u (b : D × PyData) => ∃ v, RelV v u ∧ RV g w H b.1 v) us (ds.zip ps) ∧ PySem.W.EachIs (fun u (b : D × PyData) => ∃ as, Reads hp u b.2 as) us (ds.zip ps)
  | _, _, _, _, _, .nil, .nil, .nil => ⟨.nil, .nil⟩
  | _, _, _, _, _, .cons r1 r2, .cons q1 q2, .cons z1 z2 => by
    obtain ⟨a, b⟩ := zip_reads r2 q2 z2
    exact ⟨.cons ⟨_, q1, r1⟩ a, .cons ⟨_, z1⟩ b⟩
theorem each_back : ∀ {us : List Value} {bs : List (D × PyData)}, PySem.W.EachIs (fun u (b : D × PyData) => ∃ v, RelV v u ∧ RV g w H b.1 v) us bs → ∃ vs, Vals vs us ∧ RVs g w H (bs.map (·.1)) vs
  | _, _, .nil => ⟨[], .nil, .nil⟩
  | _, _, .cons ⟨v, q, r⟩ t => by
    obtain ⟨vs, a, b⟩ := each_back t
    exact ⟨v :: vs, .cons q a, .cons r b⟩
theorem zip_snd : ∀ {ds : List D} {ps : List PyData}, ds.length = ps.length → (ds.zip ps).map (·.2) = ps
  | [], [], _ => rfl
  | d :: ds, p :: ps, e => by simp only [List.zip_cons_cons, List.map_cons]; rw [zip_snd (by simpa using e)]
  | [], _ :: _, e => by simp at e
  | _ :: _, [], e => by simp at e
theorem toPs_len {f : Nat → Option PyData} : ∀ {ds : List D} {ps : List PyData}, toPs f ds = some ps → ds.length = ps.length
  | [], _, e => by simp [toPs] at e; subst e; rfl
  | d :: ds, ps, e => by
    simp only [toPs] at e
    split at e
    · rename_i e2
      cases e
      rw [List.length_cons, List.length_cons, toPs_len e2]
    · cases e
theorem sorted_core (xo : XO g X) {pins : List (Addr × Obj)} {s : Shared} {σ : L2.St} {a : Addr} {vs : List V} {ds es : List D} (I : Inv X pins σ H s) (hr : HR g w h H) (ha : H a = some (.lst vs)) (t : RVs g w H ds vs) (e : sortedL h ds = some es)
    (q : ∀ us p, RVs g w H es us → H p = none → Q (.ref p) (upd H p (.lst us))) : wpAny (model X.prog X.w) X.A (call (.builtin "sorted") [.ref a]) (EP X pins σ Q) X.xe s := by
  unfold sortedL at e
  split at e
  · rename_i ps e1
    split at e
    · rename_i hz
      cases e
      simp only [Bool.and_eq_true, List.all_eq_true, decide_eq_true_eq] at hz
      obtain ⟨⟨h1, h2⟩, h3⟩ := hz
      obtain ⟨its, n, rv, hp, hz⟩ := lst_at I.hok ha
      obtain ⟨as, rs⟩ := toDs_reads I.hok hr e1 t rv
      have hl := toPs_len e1
      obtain ⟨z1, z2⟩ := zip_reads t rv rs
      refine PySem.W.sorted_data (enc := fun b : D × PyData => b.2) ⟨_, hp, rfl, n, rfl⟩ z1 z2 (by rw [zip_snd hl]; exact alikes_ok h1) (by rw [zip_snd hl]; exact sortable_ok h2) ?_ (fun b hb => ?_) (fun out ho hout => ?_)
      · rw [List.length_zip, hl, Nat.min_self, ← hl, t.length]; exact hz
      · have hb2 : b.2 ∈ ps := (List.of_mem_zip hb).2
        have := h3 _ hb2
        have := xo.un
        omega
      · obtain ⟨us, k1, k2⟩ := each_back hout
        obtain ⟨ep, he'⟩ := PyProof.Rows.sortedAll_at s.heap its out.toArray
        have hlen : us.length ≤ sizeLine := by
          rw [k1.length, ho, List.length_zip, hl, Nat.min_self, ← hl, t.length]; exact hz
        exact ⟨.ref _, upd H (s.heap.objs.size + 1) (.lst us), I.laid (t' := s.toks) (fun _ _ => PyProof.Rows.sortedAll_old) (Nat.le_succ _) ⟨hlen, out, ep, k1, he'⟩, rfl, q us _ k2 (I.hok.fresh (Nat.le_succ _))⟩
    · cases e
  · cases e
def rSrt (g : Gx) : List V → Hp → VK → Prop := fun xs H Q => ∃ w h a vs ds es, xs = [V.ref a] ∧ HR g w h H ∧ H a = some (.lst vs) ∧ RVs g w H ds vs ∧ sortedL h ds = some es ∧ ∀ us p, RVs g w H es us → H p = none → Q (.ref p) (upd H p (.lst us))
theorem srt_ok (xo : XO g X) : CallR X (.builtin "sorted") (rSrt g) := by
  intro pins s σ H xs us Q I r ⟨w, h, a, vs, ds, es, ex, hr, ha, t, e, q⟩
  subst ex
  obtain ⟨u, rfl, ru⟩ := vals1 r
  cases ru
  exact sorted_core xo I hr ha t e q
def rRep (g : Gx) : List V → Hp → VK → Prop := fun xs H Q => ∃ w h d x p, xs = [x] ∧ HR g w h H ∧ RV g w H d x ∧ toD h d = some p ∧ p.showable = true ∧ p.shown.length ≤ sizeLine ∧ p.depth ≤ 150 ∧ Q (.str p.shown) H
section
variable {prog : Program} {wo : World} {h₀ : Heap}
theorem RdN.reads {v : Value} {d : PyData} (r : RdN h₀ v d) : ∃ as, Reads h₀ v d as := by
  cases r with
  | leaf r _ => exact ⟨_, r⟩
  | dct0 h1 h2 h3 h4 => exact ⟨_, .dict (kvs := []) h1 h2.1 h3 .nil .nil⟩
  | list h1 h2 h3 h4 _ => exact ⟨_, .list h1 h2 h3 h4⟩
  | tuple h1 h2 h3 h4 _ => exact ⟨_, .tuple h1 h2 h3 h4⟩
mutual
theorem RdN.repr : ∀ {v : Value} {d : PyData}, RdN h₀ v d → d.showable = true → d.shown.length ≤ sizeLine → ∃ bs, ReadAtMost h₀ d.depth bs ∧ ReprK prog wo bs h₀ d.depth v d.shown
  | _, _, .leaf r at_, hs, hz => ReprK.of_reads r hs (fun z => by revert at_ z; cases r <;> simp [isAt, PyData.hasDict]) hz
  | _, _, .dct0 h1 h2 h3 h4, hs, hz => ReprK.of_reads (.dict (kvs := []) h1 h2.1 h3 .nil .nil) hs (fun _ z => by simp at z h4; exact h4 z.symm) hz
  | _, _, .list (a := a) (vs := vs) (xs := xs) h1 h2 h3 h4 h5, hs, hz => by
    rw [PyData.shown] at hz
    obtain ⟨bs, hb, hk⟩ := RdNs.repr h5 (by rw [PyData.showable] at hs; exact hs) fun t ht => Nat.le_trans (listText_mem_le ht) hz
    have r : Reads h₀ (.ref a) (.list xs) _ := .list h1 h2 h3 h4
    refine ⟨a :: bs, ReadAtMost.cons r (by rw [PyData.depth]; omega) hb, ?_⟩
    have na : a ∉ bs := not_mem_of_deeper r (by rw [PyData.depth]; omega) hb
    rw [PyData.depth, PyData.shown]
    obtain ⟨l⟩ := vs
    cases l with
    | nil =>
      cases h5
      rw [PyData.shownAll, listText_nil]
      exact ReprK.listEmpty h1 h2 h3
    | cons x l => exact ReprK.list h1 h2 h3 na (by simpa using hk.length_eq) fun i y e => hk.item i y (by simpa using e)
  | _, _, .tuple (a := a) (xs := xs) h1 h2 h3 h4 h5, hs, hz => by
    rw [PyData.shown] at hz
    obtain ⟨bs, hb, hk⟩ := RdNs.repr h5 (by rw [PyData.showable] at hs; exact hs) fun t ht => Nat.le_trans (tupleText_mem_le ht) hz
    have r : Reads h₀ (.ref a) (.tuple xs) _ := .tuple h1 h2 h3 h4
    refine ⟨a :: bs, ReadAtMost.cons r (by rw [PyData.depth]; omega) hb, ?_⟩
    rw [PyData.depth, PyData.shown]
    exact ReprK.tuple h1 h2 h3 (not_mem_of_deeper r (by rw [PyData.depth]; omega) hb) hk
theorem RdNs.repr : ∀ {vs : List Value} {ds : List PyData}, RdNs h₀ vs ds → PyData.showableAll ds = true → (∀ t ∈ PyData.shownAll ds, t.length ≤ sizeLine) → ∃ bs, ReadAtMost h₀ (PyData.depthAll ds) bs ∧ ReprAllK prog wo bs h₀ (PyData.depthAll ds) vs (PyData.shownAll ds)
  | _, _, .nil, _, _ => ⟨[], fun _ h => (nomatch h), by rw [PyData.shownAll]; exact .nil⟩
  | _, _, .cons (d := d) (ds := ds) r rs, hs, hz => by
    simp only [PyData.showableAll, Bool.and_eq_true] at hs
    simp only [PyData.shownAll, List.mem_cons, forall_eq_or_imp] at hz
    obtain ⟨b1, m1, k1⟩ := RdN.repr r hs.1 hz.1
    obtain ⟨b2, m2, k2⟩ := RdNs.repr rs hs.2 hz.2
    rw [PyData.depthAll, PyData.shownAll]
    exact ⟨b1 ++ b2, (m1.mono (Nat.le_max_left _ _)).append (m2.mono (Nat.le_max_right _ _)), .cons ((k1.more fun b hb => List.mem_append_left _ hb).level_le (Nat.le_max_left _ _)) (k2.more_le (fun b hb => List.mem_append_right _ hb) (Nat.le_max_right _ _))⟩
end
theorem RdN.call {a : Addr} {d : PyData} (r : RdN h₀ (.ref a) d) (hs : d.showable = true) (hsz : d.shown.length ≤ sizeLine) {A : Around} {E : Value → Shared → Prop} {s : Shared} {Q : Value → Shared → Prop} (hg : A.guards = some []) (hu : A.units + (d.depth + 1) < cLine)
    (hk0 : ∀ b o, h₀.get? b = some o → s.heap.get? b = some o) (hQ : ∀ h' u tk, (∀ b o, s.heap.get? b = some o → h'.get? b = some o) → Q (.str d.shown u) { s with heap := h', toks := tk }) : wpAny (model prog wo) A (call (.builtin "repr") [.ref a]) Q E s := by
  cases r with
  | leaf r at_ => exact repr_of_reads' r hs (fun z => by revert at_ z; cases r <;> simp [isAt, PyData.hasDict]) hg hu hk0 hQ hsz
  | dct0 h1 h2 h3 h4 => exact repr_of_reads' (.dict (kvs := []) h1 h2.1 h3 .nil .nil) hs (fun _ z => by simp at z h4; exact h4 z.symm) hg hu hk0 hQ hsz
  | @list _ o vs n xs as h1 h2 h3 h4 h5 =>
    rw [PyData.shown] at hsz hQ
    rw [PyData.depth] at hu
    obtain ⟨bs, hb, hk⟩ := RdNs.repr (prog := prog) (wo := wo) h5 (by rw [PyData.showable] at hs; exact hs) fun t ht => Nat.le_trans (listText_mem_le ht) hsz
    have na : a ∉ bs := not_mem_of_deeper (.list h1 h2 h3 h4) (by rw [PyData.depth]; omega) hb
    refine call_repr_slot (by omega) ⟨o, hk0 _ _ h1, h2⟩ F.slot_list_repr.toG ?_
    obtain ⟨l⟩ := vs
    cases l with
    | nil =>
      cases h5
      rw [PyData.shownAll, listText_nil] at hQ
      exact call_list_repr_empty ⟨o, hk0 _ _ h1, h2⟩ (hk0 _ _ h1) h3 ⟨_, _, rfl, hQ s.heap _ _ fun _ _ e => e⟩
    | cons x l => exact call_list_reprK h1 h2 h3 na (by simpa using hk.length_eq) (fun i y e => hk.item i y (by simpa using e)) hg (fun b _ => Clear.nil b) (by show A.units + 1 + _ < cLine; omega) hk0 (fun h' u tk hk => ⟨_, _, rfl, hQ h' u tk hk⟩) hsz
  | @tuple _ o vs n xs as h1 h2 h3 h4 h5 =>
    rw [PyData.shown] at hsz hQ
    rw [PyData.depth] at hu
    obtain ⟨bs, hb, hk⟩ := RdNs.repr (prog := prog) (wo := wo) h5 (by rw [PyData.showable] at hs; exact hs) fun t ht => Nat.le_trans (tupleText_mem_le ht) hsz
    have na : a ∉ bs := not_mem_of_deeper (.tuple h1 h2 h3 h4) (by rw [PyData.depth]; omega) hb
    refine call_repr_slot (by omega) ⟨o, hk0 _ _ h1, h2⟩ F.slot_tuple_repr ?_
    exact call_tuple_reprK h1 h2 h3 na hk hg (fun b _ => Clear.nil b) (by show A.units + 1 + _ < cLine; omega) hk0 (fun h' u tk hk => ⟨_, _, rfl, hQ h' u tk hk⟩) hsz
end
theorem rep_ok (xo : XO g X) : CallR X (.builtin "repr") (rRep g) := by
  intro pins s σ H xs us Q I r ⟨w, h, d, x, p, ex, hr, rd, e, h1, h3, h4, q⟩
  subst ex
  obtain ⟨u, rfl, ru⟩ := vals1 r
  obtain ⟨as, rs, hn⟩ := toD_reads' I.hok hr e rd ru
  have hun := xo.un
  cases rs with
  | none => exact PySem.P.repr_of_none ⟨.str _, H, I.tok _, ⟨_, rfl⟩, q⟩
  | bool b => exact PySem.P.repr_of_bool ⟨.str _, H, I.tok _, ⟨_, rfl⟩, q⟩
  | int i t => exact PySem.P.repr_of_int (by simpa [PyData.showable] using h1) ⟨.str _, H, I.tok _, ⟨_, rfl⟩, q⟩
  | str y t => exact PySem.P.repr_of_str ⟨.str _, H, I.tok _, ⟨_, rfl⟩, q⟩ h3
  | list a1 a2 a3 a4 => exact hn.call h1 h3 xo.gd (by omega) (fun _ _ e => e) (fun h' u tk hk => ⟨.str _, H, I.kept hk, ⟨_, rfl⟩, q⟩)
  | tuple a1 a2 a3 a4 => exact hn.call h1 h3 xo.gd (by omega) (fun _ _ e => e) (fun h' u tk hk => ⟨.str _, H, I.kept hk, ⟨_, rfl⟩, q⟩)
  | dict a1 a2 a3 a4 a5 => exact hn.call h1 h3 xo.gd (by omega) (fun _ _ e => e) (fun h' u tk hk => ⟨.str _, H, I.kept hk, ⟨_, rfl⟩, q⟩)
theorem bi_ok (xo : XO g X) (b : Bi) : CallR X (biV b) (rC g E (biS b)) := callr_of fun w H h ds xs Q hr ra o => by
  cases b with
  | len =>
    simp only [biS, bLen] at o
    split at o
    · obtain ⟨x, rfl, rx⟩ := rvs1 ra
      split at o
      · cases rx
        split at o
        · exact ⟨_, call_len_str, _, rfl, sz_le ‹_›, o.keep hr (.int _)⟩
        · exact o.elim
      · split at o
        · rename_i e1
          obtain ⟨p, vs, rfl, hq, t⟩ := asS_ok (K := X.K) e1 hr rx
          rw [t.length] at o
          exact ⟨_, call_len_seq, _, _, rfl, hq, o.keep hr (.int _)⟩
        · split at o
          · rename_i kds e1
            obtain ⟨p, kvs, rfl, hq, ek, t⟩ := asD_ok e1 hr rx
            have el : kds.length = kvs.length := by have := congrArg List.length ek; simpa using this.symm
            rw [el] at o
            exact ⟨_, call_lenR, _, _, rfl, hq, o.keep hr (.int _)⟩
          · exact o.elim
    · exact o.elim
  | list =>
    simp only [biS, bSeq] at o
    split at o
    · obtain ⟨x, rfl, rx⟩ := rvs1 ra
      split at o
      · rename_i e1
        obtain ⟨p, vs, rfl, hq, t⟩ := asS_ok (K := X.K) e1 hr rx
        exact ⟨_, call_list_of, _, _, rfl, hq, o.lst hr t⟩
      · exact o.elim
    · exact o.elim
  | nlist =>
    simp only [biS, bSeq] at o
    split at o
    · obtain ⟨x, rfl, rx⟩ := rvs1 ra
      split at o
      · rename_i e1
        obtain ⟨p, vs, rfl, hq, t⟩ := asS_ok (K := X.K) e1 hr rx
        exact ⟨_, call_list_of, _, _, rfl, hq, o.nlst hr t⟩
      · exact o.elim
    · exact o.elim
  | tuple =>
    simp only [biS, bSeq] at o
    split at o
    · obtain ⟨x, rfl, rx⟩ := rvs1 ra
      split at o
      · rename_i d _ ds0 e1
        by_cases hd : ∃ es, d = .tup es
        · obtain ⟨es, rfl⟩ := hd
          obtain ⟨p, vs, rfl, hq, t⟩ := rv_tup rx
          simp [asS] at e1
          subst e1
          exact ⟨_, call_tuple_of, _, _, rfl, .inr ⟨.inl (.inl hq), o.keep hr rx⟩⟩
        · have e2 : asL h d = some ds0 := by
            cases d with
            | tup es => exact absurd ⟨es, rfl⟩ hd
            | _ => exact e1
          obtain ⟨p, vs, rfl, hq, t⟩ := asL_ok e2 hr rx
          exact ⟨_, call_tuple_of, _, _, rfl, .inl ⟨.inl (.inl hq), o.tup hr t⟩⟩
      · exact o.elim
    · exact o.elim
  | sum =>
    simp only [biS, bInts] at o
    split at o
    · obtain ⟨x, rfl, rx⟩ := rvs1 ra
      split at o
      · rename_i e1
        split at o
        · rename_i e2
          obtain ⟨p, vs, rfl, hq, t⟩ := asL_ok e1 hr rx
          have e3 := intsOf_eq e2
          subst e3
          have e4 := t.toInts
          subst e4
          exact ⟨_, cr_sum xo.calm, _, _, rfl, .inl (.inl hq), o.keep hr (.int _)⟩
        · exact o.elim
      · exact o.elim
    · exact o.elim
  | max =>
    simp only [biS, bInts] at o
    split at o
    · obtain ⟨x, rfl, rx⟩ := rvs1 ra
      split at o
      · rename_i e1
        split at o
        · rename_i e2
          simp only [optI] at o
          split at o
          · rename_i e5
            obtain ⟨p, vs, rfl, hq, t⟩ := asL_ok e1 hr rx
            have e3 := intsOf_eq e2
            subst e3
            have e4 := t.toInts
            subst e4
            refine ⟨_, cr_max xo.calm, _, _, rfl, .inl (.inl hq), ?_, fun m m1 m2 => ?_⟩
            · refine Nat.pos_of_ne_zero fun z => ?_
              rw [List.length_eq_zero_iff.mp z] at e5
              cases e5
            · rw [maxI_of e5 m1 m2]
              exact o.keep hr (.int _)
          · exact o.elim
        · exact o.elim
      · exact o.elim
    · exact o.elim
  | min =>
    simp only [biS, bInts] at o
    split at o
    · obtain ⟨x, rfl, rx⟩ := rvs1 ra
      split at o
      · rename_i e1
        split at o
        · rename_i e2
          simp only [optI] at o
          split at o
          · rename_i e5
            obtain ⟨p, vs, rfl, hq, t⟩ := asL_ok e1 hr rx
            have e3 := intsOf_eq e2
            subst e3
            have e4 := t.toInts
            subst e4
            refine ⟨_, cr_min xo.calm, _, _, rfl, .inl (.inl hq), ?_, fun m m1 m2 => ?_⟩
            · refine Nat.pos_of_ne_zero fun z => ?_
              rw [List.length_eq_zero_iff.mp z] at e5
              cases e5
            · rw [minI_of e5 m1 m2]
              exact o.keep hr (.int _)
          · exact o.elim
        · exact o.elim
      · exact o.elim
    · exact o.elim
  | abs =>
    simp only [biS, bAbs] at o
    split at o
    · obtain ⟨x, rfl, rx⟩ := rvs1 ra
      cases rx
      exact ⟨_, call_abs, _, rfl, o.keep hr (.int _)⟩
    · exact o.elim
  | int =>
    simp only [biS, bInt] at o
    split at o
    · obtain ⟨x, rfl, rx⟩ := rvs1 ra
      cases rx
      exact ⟨_, call_int1, .inl ⟨_, rfl, o.keep hr (.int _)⟩⟩
    · obtain ⟨x, rfl, rx⟩ := rvs1 ra
      cases rx
      exact ⟨_, call_int1, .inr ⟨_, rfl, o.keep hr (.int _)⟩⟩
    · exact o.elim
  | sorted =>
    simp only [biS, bSrt] at o
    split at o
    · obtain ⟨x, rfl, rx⟩ := rvs1 ra
      split at o
      · rename_i e1
        split at o
        · rename_i e2
          obtain ⟨p, vs, rfl, hq, t⟩ := asL_ok e1 hr rx
          exact ⟨_, srt_ok xo, w, h, p, vs, _, _, rfl, hr, hq, t, e2, fun us q ru hq => o.lst hr ru q hq⟩
        · exact o.elim
      · exact o.elim
    · exact o.elim
  | nsorted =>
    simp only [biS, bSrt] at o
    split at o
    · obtain ⟨x, rfl, rx⟩ := rvs1 ra
      split at o
      · rename_i e1
        split at o
        · rename_i e2
          obtain ⟨p, vs, rfl, hq, t⟩ := asL_ok e1 hr rx
          exact ⟨_, srt_ok xo, w, h, p, vs, _, _, rfl, hr, hq, t, e2, fun us q ru hq => o.nlst hr ru q hq⟩
        · exact o.elim
      · exact o.elim
    · exact o.elim
  | repr =>
    simp only [biS, bRepr] at o
    split at o
    · obtain ⟨x, rfl, rx⟩ := rvs1 ra
      split at o
      · rename_i e1
        split at o
        · rename_i hz
          simp only [Bool.and_eq_true, Bool.or_eq_true, decide_eq_true_eq, Bool.not_eq_true'] at hz
          obtain ⟨⟨h1, h3⟩, h4⟩ := hz
          exact ⟨_, rep_ok xo, w, h, _, _, _, rfl, hr, rx, e1, h1, sz_le h3, h4, o.keep hr (.str _)⟩
        · exact o.elim
      · exact o.elim
    · exact o.elim
  | all =>
    simp only [biS, bBls] at o
    split at o
    · obtain ⟨x, rfl, rx⟩ := rvs1 ra
      split at o
      · rename_i e1
        split at o
        · rename_i e2
          obtain ⟨p, vs, rfl, hq, t⟩ := asL_ok e1 hr rx
          have e3 := blsOf_eq e2
          subst e3
          have e4 := t.toBls
          subst e4
          exact ⟨_, cr_all xo.calm, _, _, rfl, .inl (.inl hq), o.keep hr (.bl _)⟩
        · exact o.elim
      · exact o.elim
    · exact o.elim
  | any =>
    simp only [biS, bBls] at o
    split at o
    · obtain ⟨x, rfl, rx⟩ := rvs1 ra
      split at o
      · rename_i e1
        split at o
        · rename_i e2
          obtain ⟨p, vs, rfl, hq, t⟩ := asL_ok e1 hr rx
          have e3 := blsOf_eq e2
          subst e3
          have e4 := t.toBls
          subst e4
          exact ⟨_, cr_any xo.calm, _, _, rfl, .inl (.inl hq), o.keep hr (.bl _)⟩
        · exact o.elim
      · exact o.elim
    · exact o.elim
  | isi =>
    simp only [biS, bIsi] at o
    split at o
    · obtain ⟨x, y, rfl, rx, ry⟩ := rvs2 ra
      cases ry
      split at o
      · rename_i e1
        split at o
        · rename_i e2
          exact ⟨_, call_isi, _, _, _, _, _, rfl, .ty _, tyN_ok e1 hr rx, kit_ty e2, o.keep hr (.bl _)⟩
        · exact o.elim
      · exact o.elim
    · exact o.elim
end
end Bx
namespace Bx
open PySem PySem.Spec PyProof.Rows L2

abbrev Fn := Rho → Hh → Res D
abbrev Ft := Rho → Hh → Res Bool
abbrev Fl := Rho → Hh → Res (List D)

section
variable {α β : Type} {g : Gx} {W : WX} {X : Cx} {w : Wd} {ρ : Rho} {h : Hh} {σ : L2.St} {H : Hp} {R' : Wd → Hp → α → β → Prop} {Q2 : β → Hp → Prop}
theorem tI_go {f : Fn} {k : D → Hh → Res α} (s : SR g w ρ h σ H) (o : OKg g R' w H (wAt W σ) Q2 ((f ρ h).bind k)) {Q : VK}
    (hq : ∀ V H1 w1 a h1, Later w H w1 H1 → SR g w1 ρ h1 σ H1 → RV g w1 H1 a V → OKg g R' w1 H1 (wAt W σ) Q2 (k a h1) → Q V H1) : tI g W f σ H Q :=
  ⟨w, ρ, h, s, (OKg.bind o).imp fun V H1 ⟨w1, a, h1, l, hr, rv, o1⟩ => hq V H1 w1 a h1 l (s.step l hr) rv o1⟩
theorem tT_go {f : Ft} {k : Bool → Hh → Res α} (s : SR g w ρ h σ H) (o : OKg g R' w H (wAt W σ) Q2 ((f ρ h).bind k)) {Q : Bool → Hp → Prop}
    (hq : ∀ b H1 w1 h1, Later w H w1 H1 → SR g w1 ρ h1 σ H1 → OKg g R' w1 H1 (wAt W σ) Q2 (k b h1) → Q b H1) : tT g W f σ H Q :=
  ⟨w, ρ, h, s, (OKg.bind (R := RB) o).imp fun b H1 ⟨w1, a, h1, l, hr, rv, o1⟩ => by cases rv; exact hq b H1 w1 h1 l (s.step l hr) o1⟩
theorem tL_go {f : Fl} {k : List D → Hh → Res α} (s : SR g w ρ h σ H) (o : OKg g R' w H (wAt W σ) Q2 ((f ρ h).bind k)) {Q : List V → Hp → Prop}
    (hq : ∀ Vs H1 w1 ds h1, Later w H w1 H1 → SR g w1 ρ h1 σ H1 → RVs g w1 H1 ds Vs → OKg g R' w1 H1 (wAt W σ) Q2 (k ds h1) → Q Vs H1) : tL g W f σ H Q :=
  ⟨w, ρ, h, s, (OKg.bind o).imp fun V H1 ⟨w1, a, h1, l, hr, rv, o1⟩ => hq V H1 w1 a h1 l (s.step l hr) rv o1⟩
end

def xV (i : Nat) : Fn := fun ρ h => match ρ[i]? with | some (some d) => .ok d h | _ => .bad
def xC (d : D) : Fn := fun _ h => .ok d h
def xBin (op : D → D → Hh → Res D) (a b : Fn) : Fn := fun ρ h => (a ρ h).bind fun x h1 => (b ρ h1).bind fun y h2 => op x y h2
def negD (a : D) (h : Hh) : Res D := match a with | .int i => .ok (.int (-i)) h | _ => .bad
def xUn (op : D → Hh → Res D) (a : Fn) : Fn := fun ρ h => (a ρ h).bind fun x h1 => op x h1
def xNil : Fl := fun _ h => .ok [] h
def xCons (a : Fn) (r : Fl) : Fl := fun ρ h => (a ρ h).bind fun x h1 => (r ρ h1).bind fun xs h2 => .ok (x :: xs) h2
def xTup (a : Fl) : Fn := fun ρ h => (a ρ h).bind fun ds h1 => if sz ds.length then .ok (.tup ds) h1 else .bad
def xLst (a : Fl) : Fn := fun ρ h => (a ρ h).bind fun ds h1 => if sz ds.length then .ok (.lst ds) h1 else .bad
def xNlst (a : Fl) : Fn := fun ρ h => (a ρ h).bind fun ds h1 => if sz ds.length then .ok (.ref h1.length) (h1 ++ [.lst ds]) else .bad
def xDct0 : Fn := fun _ h => .ok (.dct []) h
def xNdct0 : Fn := fun _ h => .ok (.ref h.length) (h ++ [.dct []])
def isB (d : D) (h : Hh) : Res Bool := match d with | .bl b => .ok b h | _ => .bad
def xAnd (a b : Fn) : Fn := fun ρ h => (a ρ h).bind fun x h1 => (isB x h1).bind fun c h2 => if c then b ρ h2 else .ok (.bl false) h2
def xOr (a b : Fn) : Fn := fun ρ h => (a ρ h).bind fun x h1 => (isB x h1).bind fun c h2 => if c then .ok (.bl true) h2 else b ρ h2
def xNot (a : Fn) : Fn := fun ρ h => (a ρ h).bind fun x h1 => (isB x h1).bind fun c h2 => .ok (.bl (!c)) h2
def xIfe (t : Ft) (a b : Fn) : Fn := fun ρ h => (t ρ h).bind fun c h1 => if c then a ρ h1 else b ρ h1
def xChain (op op' : D → D → Hh → Res D) (a b c : Fn) : Fn := fun ρ h => (a ρ h).bind fun x h1 => (b ρ h1).bind fun y h2 => (op x y h2).bind fun z h3 => (isB z h3).bind fun k h4 => if k then (c ρ h4).bind fun u h5 => op' y u h5 else .ok (.bl false) h4
def xIdx (a b : Fn) : Fn := xBin idxD a b
/-- a slice's part -/
abbrev Fo := Rho → Hh → Res (Option Int)
def xNo : Fo := fun _ h => .ok none h
def isI (d : D) (h : Hh) : Res (Option Int) := match d with | .int i => .ok (some i) h | _ => .bad
def xSome (a : Fn) : Fo := fun ρ h => (a ρ h).bind fun x h1 => isI x h1
def xSlc (a : Fn) (lo hi : Fo) : Fn := fun ρ h => (a ρ h).bind fun x h1 => (lo ρ h1).bind fun l h2 => (hi ρ h2).bind fun u h3 => slcD x l u h3
def xBi (b : Bi) (a : Fl) : Fn := fun ρ h => (a ρ h).bind fun ds h1 => biS b ds h1
def xCall (n : Nat) (c : List D → Hh → Res D) (a : Fl) : Fn := fun ρ h => (a ρ h).bind fun ds h1 => if ds.length = n then c ds h1 else .bad
def yV (a : Fn) : Ft := fun ρ h => (a ρ h).bind fun x h1 => isB x h1
def yAnd (a b : Ft) : Ft := fun ρ h => (a ρ h).bind fun c h1 => if c then b ρ h1 else .ok false h1
def yOr (a b : Ft) : Ft := fun ρ h => (a ρ h).bind fun c h1 => if c then .ok true h1 else b ρ h1
def yNot (a : Ft) : Ft := fun ρ h => (a ρ h).bind fun c h1 => .ok (!c) h1
def yYes : Ft := fun _ h => .ok true h

section
variable {g : Gx} {W : WX} {X : Cx} {a b c : Expr} {pos p p2 : Pos} {fa fb fc : Fn} {es : List Expr} {fs : Fl}
theorem q_var {i : Nat} {x : Str} (hp : PE X (.Name x pos) (tVar i)) : PE X (.Name x pos) (tI g W (xV i)) := ⟨fun pins s σ H Q I ⟨w, ρ, h, sr, o⟩ => by
  unfold xV at o
  split at o
  · rename_i d e
    obtain ⟨v, e1, rv⟩ := sr.rs i d e
    exact hp.run pins s σ H Q I ⟨v, e1, o.keep sr.hr rv⟩
  · exact o.elim⟩
theorem q_c {e : Expr} {d : D} {v : V} (hp : PE X e (tC v)) (hd : ∀ w H, RV g w H d v) : PE X e (tI g W (xC d)) := ⟨fun pins s σ H Q I ⟨w, ρ, h, sr, o⟩ => hp.run pins s σ H Q I (o.keep sr.hr (hd w H))⟩
theorem q_int {i : Int} {j : Nat} : PE X (.Constant (.int i) j pos) (tI g W (xC (.int i))) := q_c pe_int fun _ _ => .int i
theorem q_str {i : Str} {j : Nat} : PE X (.Constant (.str i) j pos) (tI g W (xC (.str i))) := q_c pe_str fun _ _ => .str i
theorem q_bl {i : Bool} {j : Nat} : PE X (.Constant (.bool i) j pos) (tI g W (xC (.bl i))) := q_c pe_bl fun _ _ => .bl i
theorem q_non {j : Nat} : PE X (.Constant .none j pos) (tI g W (xC .non)) := q_c pe_non fun _ _ => .non
theorem q_bin {op : Operator} {f : D → D → Hh → Res D} (ho : ∀ E, OpR X (binaryOp op) (rD g E f)) (ha : PE X a (tI g W fa)) (hb : PE X b (tI g W fb)) : PE X (.BinOp a op b pos) (tI g W (xBin f fa fb)) :=
  ⟨fun pins s σ H Q I ⟨w, ρ, h, sr, o⟩ => (pe_op (ho (wAt W σ)) ha hb).run pins s σ H Q I (tI_go sr o fun V H1 w1 a h1 l sr1 rv o1 => tI_go sr1 o1 fun V2 H2 w2 b h2 l2 sr2 rv2 o2 => ⟨w2, h2, a, b, sr2.hr, rv.mono l2, rv2, o2⟩)⟩
theorem q_neg (ha : PE X a (tI g W fa)) : PE X (.UnaryOp .USub a pos) (tI g W (xUn negD fa)) :=
  ⟨fun pins s σ H Q I ⟨w, ρ, h, sr, o⟩ => (pe_un un_neg ha).run pins s σ H Q I (tI_go sr o fun V H1 w1 a h1 l sr1 rv o1 => by
    unfold negD at o1
    split at o1
    · cases rv
      exact ⟨_, rfl, o1.keep sr1.hr (.int _)⟩
    · exact o1.elim)⟩
theorem q_cmp {op : CmpOp} {f : D → D → Hh → Res D} (ho : ∀ E, OpR X (compareOp op) (rD g E f)) (ha : PE X a (tI g W fa)) (hb : PE X b (tI g W fb)) (hm : behindInMarks op b = false := by rfl) : PE X (.Compare a [op] [b] pos) (tI g W (xBin f fa fb)) :=
  ⟨fun pins s σ H Q I ⟨w, ρ, h, sr, o⟩ => (pe_cmpR (ho (wAt W σ)) ha hb hm).run pins s σ H Q I (tI_go sr o fun V H1 w1 a h1 l sr1 rv o1 => tI_go sr1 o1 fun V2 H2 w2 b h2 l2 sr2 rv2 o2 => ⟨w2, h2, a, b, sr2.hr, rv.mono l2, rv2, o2⟩)⟩
theorem q_nil : PA X [] (tL g W xNil) := ⟨fun ps pins s σ H Q I ⟨w, ρ, h, sr, o⟩ => pa_nil.run ps pins s σ H Q I (o w H [] (Later.refl w H) sr.hr .nil)⟩
theorem q_cons (ha : PE X a (tI g W fa)) (hr : PA X es (tL g W fs)) (hs : starEach (a :: es) X.env = (false, eval a X.env) :: starEach es X.env := by rfl) : PA X (a :: es) (tL g W (xCons fa fs)) :=
  ⟨fun ps pins s σ H Q I ⟨w, ρ, h, sr, o⟩ => (pa_cons ha hr hs).run ps pins s σ H Q I (tI_go sr o fun V H1 w1 a h1 l sr1 rv o1 => tL_go sr1 o1 fun Vs H2 w2 ds h2 l2 sr2 rvs o2 => o2 w2 H2 (V :: Vs) (Later.refl w2 H2) sr2.hr (.cons (rv.mono l2) rvs))⟩
theorem q_tup {k : Nat} (ha : PA X es (tL g W fs)) : PE X (.Tuple es k pos) (tI g W (xTup fs)) :=
  ⟨fun pins s σ H Q I ⟨w, ρ, h, sr, o⟩ => (pe_tup ha).run pins s σ H Q I (tL_go sr o fun Vs H1 w1 ds h1 l sr1 rvs o1 => by
    split at o1
    · rename_i hz
      rw [rvs.length] at hz
      exact ⟨sz_le hz, o1.tup sr1.hr rvs⟩
    · exact o1.elim)⟩
theorem q_lst (ha : PA X es (tL g W fs)) : PE X (.List es pos) (tI g W (xLst fs)) :=
  ⟨fun pins s σ H Q I ⟨w, ρ, h, sr, o⟩ => (pe_lst ha).run pins s σ H Q I (tL_go sr o fun Vs H1 w1 ds h1 l sr1 rvs o1 => by
    split at o1
    · rename_i hz
      rw [rvs.length] at hz
      exact ⟨sz_le hz, o1.lst sr1.hr rvs⟩
    · exact o1.elim)⟩
theorem q_nlst (ha : PA X es (tL g W fs)) : PE X (.List es pos) (tI g W (xNlst fs)) :=
  ⟨fun pins s σ H Q I ⟨w, ρ, h, sr, o⟩ => (pe_lst ha).run pins s σ H Q I (tL_go sr o fun Vs H1 w1 ds h1 l sr1 rvs o1 => by
    split at o1
    · rename_i hz
      rw [rvs.length] at hz
      exact ⟨sz_le hz, o1.nlst sr1.hr rvs⟩
    · exact o1.elim)⟩
/-- a new thing is locked behind its making -/
def tLockN (t : TE) : TE := fun σ H Q => t σ H fun v H' => ∃ d u, v = .ref d ∧ H' d = some u ∧ Mut (some u) ∧ ∀ ob, Q v (upd H' d (.frz ob u))
theorem pe_lockN {e : Expr} {t : TE} (h : PE X e t) : PE X e (tLockN t) := ⟨fun pins s σ H Q I hw => thn (h.run pins s σ H _ I hw) fun v s1 ⟨x, H1, I1, r, d, u, ex, hd, mu, q⟩ => by
  obtain ⟨ob, I2⟩ := I1.lock hd mu
  exact ⟨x, _, I2, r, q ob⟩⟩
theorem upd_twice {H : Hp} {p : Addr} {a b : HO} : upd (upd H p a) p b = upd H p b := by
  funext x
  by_cases e : x = p
  · subst e; rw [upd_same, upd_same]
  · rw [upd_ne e, upd_ne e, upd_ne e]
theorem q_dct0 : PE X (.Dict [] [] pos) (tI g W xDct0) := ⟨fun pins s σ H Q I ⟨w, ρ, h, sr, o⟩ => (pe_lockN pe_dnewK).run pins s σ H Q I fun p hp => ⟨p, _, rfl, upd_same, trivial, fun ob => by
  rw [upd_twice]
  exact OKg.dct (kvs := []) o sr.hr rfl .nil p ob hp⟩⟩
theorem q_ndct0 : PE X (.Dict [] [] pos) (tI g W xNdct0) := ⟨fun pins s σ H Q I ⟨w, ρ, h, sr, o⟩ => pe_dnewK.run pins s σ H Q I (OKg.ndct (kvs := []) (kds := []) o sr.hr rfl .nil)⟩
theorem isB_go {E : XK} {α β : Type} {R' : Wd → Hp → α → β → Prop} {Q2 : β → Hp → Prop} {w : Wd} {H : Hp} {d : D} {h : Hh} {V : V} {k : Bool → Hh → Res α} (o : OKg g R' w H E Q2 ((isB d h).bind k)) (rv : RV g w H d V) : ∃ b, V = .bl b ∧ OKg g R' w H E Q2 (k b h) := by
  cases d with
  | bl b => cases rv; exact ⟨b, rfl, o⟩
  | _ => exact o.elim
theorem q_one {op : BoolOp} (ha : PE X a (tI g W fa)) : PE X (.BoolOp op [a] pos) (tI g W fa) := pe_one ha
theorem q_and {rest : List Expr} (ha : PE X a (tI g W fa)) (hb : PE X (.BoolOp .And (b :: rest) pos) (tI g W fb)) : PE X (.BoolOp .And (a :: b :: rest) pos) (tI g W (xAnd fa fb)) :=
  ⟨fun pins s σ H Q I ⟨w, ρ, h, sr, o⟩ => (pe_and ha hb).run pins s σ H Q I (tI_go sr o fun V H1 w1 a h1 l sr1 rv o1 => by
    obtain ⟨c, rfl, o2⟩ := isB_go o1 rv
    refine ⟨c, rfl, ?_⟩
    cases c with
    | true => exact ⟨w1, ρ, h1, sr1, o2⟩
    | false => exact o2.keep sr1.hr (.bl false))⟩
theorem q_or {rest : List Expr} (ha : PE X a (tI g W fa)) (hb : PE X (.BoolOp .Or (b :: rest) pos) (tI g W fb)) : PE X (.BoolOp .Or (a :: b :: rest) pos) (tI g W (xOr fa fb)) :=
  ⟨fun pins s σ H Q I ⟨w, ρ, h, sr, o⟩ => (pe_or ha hb).run pins s σ H Q I (tI_go sr o fun V H1 w1 a h1 l sr1 rv o1 => by
    obtain ⟨c, rfl, o2⟩ := isB_go o1 rv
    refine ⟨c, rfl, ?_⟩
    cases c with
    | false => exact ⟨w1, ρ, h1, sr1, o2⟩
    | true => exact o2.keep sr1.hr (.bl true))⟩
theorem q_not (ha : PE X a (tI g W fa)) : PE X (.UnaryOp .Not a pos) (tI g W (xNot fa)) :=
  ⟨fun pins s σ H Q I ⟨w, ρ, h, sr, o⟩ => (pe_not ha).run pins s σ H Q I (tI_go sr o fun V H1 w1 a h1 l sr1 rv o1 => by
    obtain ⟨c, rfl, o2⟩ := isB_go o1 rv
    exact ⟨c, rfl, o2.keep sr1.hr (.bl _)⟩)⟩
theorem q_ife {t : Ft} (ht : PT X c (tT g W t)) (ha : PE X a (tI g W fa)) (hb : PE X b (tI g W fb)) : PE X (.IfExp c a b pos) (tI g W (xIfe t fa fb)) :=
  ⟨fun pins s σ H Q I ⟨w, ρ, h, sr, o⟩ => (pe_ifExp ht ha hb).run pins s σ H Q I (tT_go sr o fun c H1 w1 h1 l sr1 o1 => by
    cases c with
    | true => exact ⟨w1, ρ, h1, sr1, o1⟩
    | false => exact ⟨w1, ρ, h1, sr1, o1⟩)⟩
theorem q_idx (xo : XO g X) (ha : PE X a (tI g W fa)) (hb : PE X b (tI g W fb)) (hs : PlainIx b := by intro _ _; rfl) : PE X (.Subscript a b pos) (tI g W (xIdx fa fb)) :=
  ⟨fun pins s σ H Q I ⟨w, ρ, h, sr, o⟩ => (idx_ok (E := wAt W σ) xo ha hb hs).run pins s σ H Q I (tI_go sr o fun V H1 w1 a h1 l sr1 rv o1 => tI_go sr1 o1 fun V2 H2 w2 b h2 l2 sr2 rv2 o2 => ⟨w2, h2, a, b, sr2.hr, rv.mono l2, rv2, o2⟩)⟩
abbrev RO : Wd → Hp → Option Int → Option Int → Prop := fun _ _ a b => a = b
def tO (g : Gx) (W : WX) (f : Fo) : TO := fun σ H Q => ∃ w ρ h, SR g w ρ h σ H ∧ OKg g RO w H (wAt W σ) Q (f ρ h)
theorem q_no : PO X none (tO g W xNo) := ⟨fun pins s σ H Q I ⟨w, ρ, h, sr, o⟩ => po_none.run pins s σ H Q I (o w H none (Later.refl w H) sr.hr rfl)⟩
theorem q_some (ha : PE X a (tI g W fa)) : PO X (some a) (tO g W (xSome fa)) := ⟨fun pins s σ H Q I ⟨w, ρ, h, sr, o⟩ => (po_some ha).run pins s σ H Q I (tI_go sr o fun V H1 w1 a h1 l sr1 rv o1 => by
  unfold isI at o1
  split at o1
  · cases rv
    exact ⟨_, rfl, o1 w1 H1 _ (Later.refl w1 H1) sr1.hr rfl⟩
  · exact o1.elim)⟩
theorem tO_go {α β : Type} {R' : Wd → Hp → α → β → Prop} {Q2 : β → Hp → Prop} {w : Wd} {ρ : Rho} {h : Hh} {σ : L2.St} {H : Hp} {f : Fo} {k : Option Int → Hh → Res α} (s : SR g w ρ h σ H) (o : OKg g R' w H (wAt W σ) Q2 ((f ρ h).bind k)) {Q : Option Int → Hp → Prop}
    (hq : ∀ b H1 w1 h1, Later w H w1 H1 → SR g w1 ρ h1 σ H1 → OKg g R' w1 H1 (wAt W σ) Q2 (k b h1) → Q b H1) : tO g W f σ H Q :=
  ⟨w, ρ, h, s, (OKg.bind (R := RO) o).imp fun b H1 ⟨w1, a, h1, l, hr, rv, o1⟩ => by cases rv; exact hq b H1 w1 h1 l (s.step l hr) o1⟩
theorem q_slc (xo : XO g X) {lo hi : Option Expr} {fl fh : Fo} (ha : PE X a (tI g W fa)) (hl : PO X lo (tO g W fl)) (hh : PO X hi (tO g W fh)) : PE X (.Subscript a (.Slice lo hi none p2) pos) (tI g W (xSlc fa fl fh)) :=
  ⟨fun pins s σ H Q I ⟨w, ρ, h, sr, o⟩ => (pe_slice (slc_ok (E := wAt W σ) xo) ha hl hh).run pins s σ H Q I (tI_go sr o fun V H1 w1 a h1 l sr1 rv o1 => tO_go sr1 o1 fun lo H2 w2 h2 l2 sr2 o2 => tO_go sr2 o2 fun hi H3 w3 h3 l3 sr3 o3 => ⟨w3, h3, a, sr3.hr, (rv.mono l2).mono l3, o3⟩)⟩
/-- a built-in function or type, called by its name -/
theorem q_bi (xo : XO g X) (bi : Bi) {x : Str} (hg : Gl X x) (hm : X.mg x = none) (hx : x = biN bi) (ha : PA X (a :: es) (tL g W fs)) (he : starEach (a :: es) X.env = (false, eval a X.env) :: starEach es X.env := by rfl)
    (hpl : (backTo pos (starEach es X.env)).any (·.1) = false := by rfl) : PE X (.Call (.Name x p) (a :: es) [] pos) (tI g W (xBi bi fs)) := by
  have hv : bootBuiltins x = some (biV bi) := by rw [hx]; exact bi_boot bi
  have hn : x ≠ "__name__" := by rw [hx]; cases bi <;> decide +kernel
  have hd : (x == ("__debug__" : Str)) = false := by rw [hx]; cases bi <;> decide +kernel
  have hp : ∀ E, PE X (.Call (.Name x p) (a :: es) [] pos) (tCB (rC g E (biS bi)) (tL g W fs)) := fun E => by
    have hc := bi_ok (E := E) xo bi
    cases bi <;> first | exact pe_callB hc hg hm hv ha hn hd he hpl | exact pe_callTy hc hg hm hv ha hn hd he hpl
  exact ⟨fun pins s σ H Q I ⟨w, ρ, h, sr, o⟩ => (hp (wAt W σ)).run pins s σ H Q I (tL_go sr o fun Vs H1 w1 ds h1 l sr1 rvs o1 => ⟨w1, h1, ds, sr1.hr, rvs, o1⟩)⟩
theorem q_tv {e : Expr} (ha : PE X e (tI g W fa)) (he : ∀ whole, isTrue e X.env whole = (do let v ← whole; standAt e.pos; holding [v] (truthy v)) := by intro _; rfl) : PT X e (tT g W (yV fa)) :=
  ⟨fun pins s σ H Q I ⟨w, ρ, h, sr, o⟩ => (pt_val ha he).run pins s σ H Q I (tI_go (k := fun x h1 => isB x h1) sr o fun V H1 w1 a h1 l sr1 rv o1 => by
    unfold isB at o1
    split at o1
    · cases rv
      exact ⟨_, rfl, o1 w1 H1 _ (Later.refl w1 H1) sr1.hr rfl⟩
    · exact o1.elim)⟩
theorem q_tcmp {op : CmpOp} {f : D → D → Hh → Res D} (ho : ∀ E, OpR X (compareOp op) (rD g E f)) (ha : PE X a (tI g W fa)) (hb : PE X b (tI g W fb)) (hm : behindInMarks op b = false := by rfl) : PT X (.Compare a [op] [b] pos) (tT g W (yV (xBin f fa fb))) :=
  ⟨fun pins s σ H Q I ⟨w, ρ, h, sr, o⟩ => by
    refine (pt_cmpR (ho (wAt W σ)) ha hb hm).run pins s σ H Q I ?_
    have o' : OKg g (RV g) w H (wAt W σ) (fun V H1 => ∃ k, V = .bl k ∧ Q k H1) (xBin f fa fb ρ h) := (OKg.bind (R := RV g) o).imp fun V H1 ⟨w1, x, h1, l, hr, rv, o1⟩ => by
      unfold isB at o1
      split at o1
      · cases rv
        exact ⟨_, rfl, o1 w1 H1 _ (Later.refl w1 H1) hr rfl⟩
      · exact o1.elim
    exact tI_go sr o' fun V H1 w1 a h1 l sr1 rv o1 => tI_go sr1 o1 fun V2 H2 w2 b h2 l2 sr2 rv2 o2 => ⟨w2, h2, a, b, sr2.hr, rv.mono l2, rv2, o2⟩⟩
theorem q_tnot {t : Ft} (ha : PT X a (tT g W t)) : PT X (.UnaryOp .Not a pos) (tT g W (yNot t)) :=
  ⟨fun pins s σ H Q I ⟨w, ρ, h, sr, o⟩ => (pt_not ha).run pins s σ H Q I (tT_go sr o fun c H1 w1 h1 l sr1 o1 => o1 w1 H1 _ (Later.refl w1 H1) sr1.hr rfl)⟩
theorem q_tand {rest : List Expr} {t u : Ft} (ha : PT X a (tT g W t)) (hb : PW X (.BoolOp .And (b :: rest) pos) (tT g W u)) : PW X (.BoolOp .And (a :: b :: rest) pos) (tT g W (yAnd t u)) :=
  ⟨fun wh pins s σ H Q I ⟨w, ρ, h, sr, o⟩ => (pw_and ha hb).run wh pins s σ H Q I (tT_go sr o fun c H1 w1 h1 l sr1 o1 => by
    cases c with
    | true => exact ⟨w1, ρ, h1, sr1, o1⟩
    | false => exact o1 w1 H1 _ (Later.refl w1 H1) sr1.hr rfl)⟩
theorem q_tor {rest : List Expr} {t u : Ft} (ha : PT X a (tT g W t)) (hb : PW X (.BoolOp .Or (b :: rest) pos) (tT g W u)) : PW X (.BoolOp .Or (a :: b :: rest) pos) (tT g W (yOr t u)) :=
  ⟨fun wh pins s σ H Q I ⟨w, ρ, h, sr, o⟩ => (pw_or ha hb).run wh pins s σ H Q I (tT_go sr o fun c H1 w1 h1 l sr1 o1 => by
    cases c with
    | false => exact ⟨w1, ρ, h1, sr1, o1⟩
    | true => exact o1 w1 H1 _ (Later.refl w1 H1) sr1.hr rfl)⟩
theorem q_tchain {op op' : CmpOp} {f f' : D → D → Hh → Res D} (ha : PE X a (tI g W fa)) (hb : PE X b (tI g W fb)) (hc : PE X c (tI g W fc))
    {tt : L2.St → TT} (hp : ∀ σ, PT X (.Compare a [op, op'] [b, c] pos) (tt σ)) (hq : ∀ σ H Q, tI g W (xChain f f' fa fb fc) σ H (fun V H1 => ∃ k, V = .bl k ∧ Q k H1) → tt σ σ H Q) : PT X (.Compare a [op, op'] [b, c] pos) (tT g W (yV (xChain f f' fa fb fc))) :=
  ⟨fun pins s σ H Q I ⟨w, ρ, h, sr, o⟩ => by
    refine (hp σ).run pins s σ H Q I (hq σ H Q ⟨w, ρ, h, sr, ?_⟩)
    exact (OKg.bind (R := RV g) o).imp fun V H1 ⟨w1, x, h1, l, hr, rv, o1⟩ => by
      unfold isB at o1
      split at o1
      · cases rv
        exact ⟨_, rfl, o1 w1 H1 _ (Later.refl w1 H1) hr rfl⟩
      · exact o1.elim⟩
end
end Bx
namespace Bx
open PySem PySem.Spec PyProof.Rows L2

inductive SRes where
  | nx (ρ : Rho) (h : Hh)
  | rt (d : D) (h : Hh)
  | bk (ρ : Rho) (h : Hh)
  | ct (ρ : Rho) (h : Hh)
  | exc (c : Str) (ds : List D) (ρ : Rho) (h : Hh)
  | bad
abbrev Fs := Rho → Hh → SRes
def OKs (g : Gx) (w : Wd) (H : Hp) (W : WX) (Dn : Ends) : SRes → Prop
  | .nx ρ h => ∀ w' H' σ', Later w H w' H' → SR g w' ρ h σ' H' → Dn.nx σ' H'
  | .rt d h => ∀ w' H' v, Later w H w' H' → HR g w' h H' → RV g w' H' d v → Dn.rt v H'
  | .bk ρ h => ∀ w' H' σ', Later w H w' H' → SR g w' ρ h σ' H' → Dn.bk σ' H'
  | .ct ρ h => ∀ w' H' σ', Later w H w' H' → SR g w' ρ h σ' H' → Dn.ct σ' H'
  | .exc c ds ρ h => ∀ w' H' σ' C d, Later w H w' H' → SR g w' ρ h σ' H' → XR g w' H' c ds C d → W (.ref C) d σ' H'
  | .bad => False
def tS (g : Gx) (W : WX) (f : Fs) : TS := fun Dn σ H => ∃ w ρ h, SR g w ρ h σ H ∧ OKs g w H W Dn (f ρ h)
/-- an expression ahead of the rest of a statement -/
def SRes.of {α : Type} (ρ : Rho) (r : Res α) (k : α → Hh → SRes) : SRes := match r with
  | .ok a h => k a h
  | .exc c ds h => .exc c ds ρ h
  | .bad => .bad
@[simp] theorem SRes.of_ok {α : Type} (ρ : Rho) (a : α) (h : Hh) (k : α → Hh → SRes) : SRes.of ρ (.ok a h) k = k a h := rfl
section
variable {α β : Type} {g : Gx} {W : WX} {X : Cx} {w w' : Wd} {ρ : Rho} {h : Hh} {σ : L2.St} {H H' : Hp} {Dn Dn' : Ends}
theorem OKs.mono {r : SRes} (l : Later w H w' H') (o : OKs g w H W Dn r) : OKs g w' H' W Dn r := by
  cases r with
  | nx ρ h => exact fun w2 H2 σ l2 => o w2 H2 σ (l.trans l2)
  | rt d h => exact fun w2 H2 v l2 => o w2 H2 v (l.trans l2)
  | bk ρ h => exact fun w2 H2 σ l2 => o w2 H2 σ (l.trans l2)
  | ct ρ h => exact fun w2 H2 σ l2 => o w2 H2 σ (l.trans l2)
  | exc c ds ρ h => exact fun w2 H2 σ C d l2 => o w2 H2 σ C d (l.trans l2)
  | bad => exact o
theorem OKs.of {R : Wd → Hp → α → β → Prop} {r : Res α} {k : α → Hh → SRes} (s : SR g w ρ h σ H) (o : OKs g w H W Dn (SRes.of ρ r k)) :
    OKg g R w H (wAt W σ) (fun b H1 => ∃ w1 a h1, Later w H w1 H1 ∧ HR g w1 h1 H1 ∧ R w1 H1 a b ∧ OKs g w1 H1 W Dn (k a h1)) r := by
  cases r with
  | ok a h => exact fun w2 H2 b l2 hr rv => ⟨w2, a, h, l2, hr, rv, OKs.mono l2 o⟩
  | exc c ds h1 => exact fun w2 H2 C d l2 hr xr => o w2 H2 σ C d l2 (s.step l2 hr) xr
  | bad => exact o
theorem sI_go {f : Fn} {k : D → Hh → SRes} (s : SR g w ρ h σ H) (o : OKs g w H W Dn (SRes.of ρ (f ρ h) k)) {Q : VK}
    (hq : ∀ V H1 w1 a h1, Later w H w1 H1 → SR g w1 ρ h1 σ H1 → RV g w1 H1 a V → OKs g w1 H1 W Dn (k a h1) → Q V H1) : tI g W f σ H Q :=
  ⟨w, ρ, h, s, (OKs.of s o).imp fun V H1 ⟨w1, a, h1, l, hr, rv, o1⟩ => hq V H1 w1 a h1 l (s.step l hr) rv o1⟩
theorem sT_go {f : Ft} {k : Bool → Hh → SRes} (s : SR g w ρ h σ H) (o : OKs g w H W Dn (SRes.of ρ (f ρ h) k)) {Q : Bool → Hp → Prop}
    (hq : ∀ b H1 w1 h1, Later w H w1 H1 → SR g w1 ρ h1 σ H1 → OKs g w1 H1 W Dn (k b h1) → Q b H1) : tT g W f σ H Q :=
  ⟨w, ρ, h, s, (OKs.of (R := RB) s o).imp fun b H1 ⟨w1, a, h1, l, hr, rv, o1⟩ => by cases rv; exact hq b H1 w1 h1 l (s.step l hr) o1⟩
theorem sL_go {f : Fl} {k : List D → Hh → SRes} (s : SR g w ρ h σ H) (o : OKs g w H W Dn (SRes.of ρ (f ρ h) k)) {Q : List V → Hp → Prop}
    (hq : ∀ Vs H1 w1 ds h1, Later w H w1 H1 → SR g w1 ρ h1 σ H1 → RVs g w1 H1 ds Vs → OKs g w1 H1 W Dn (k ds h1) → Q Vs H1) : tL g W f σ H Q :=
  ⟨w, ρ, h, s, (OKs.of s o).imp fun V H1 ⟨w1, a, h1, l, hr, rv, o1⟩ => hq V H1 w1 a h1 l (s.step l hr) rv o1⟩
end

def zNext : Fs := fun ρ h => .nx ρ h
def zSeq (a b : Fs) : Fs := fun ρ h => match a ρ h with
  | .nx ρ1 h1 => b ρ1 h1
  | r => r
def zSet (i : Nat) (a : Fn) : Fs := fun ρ h => SRes.of ρ (a ρ h) fun d h1 => .nx (ρ.set i (some d)) h1
def zIf (t : Ft) (a b : Fs) : Fs := fun ρ h => SRes.of ρ (t ρ h) fun c h1 => if c then a ρ h1 else b ρ h1
def zRet (a : Fn) : Fs := fun ρ h => SRes.of ρ (a ρ h) fun d h1 => .rt d h1
def zRetN : Fs := fun _ h => .rt .non h
def zExpr (a : Fn) : Fs := fun ρ h => SRes.of ρ (a ρ h) fun _ h1 => .nx ρ h1
def zBreak : Fs := fun ρ h => .bk ρ h
def zCont : Fs := fun ρ h => .ct ρ h
def zNever : Fs := fun _ _ => .bad
/-- a, b = x, y by names -/
def zPar (i j : Nat) (a : Fl) : Fs := fun ρ h => SRes.of ρ (a ρ h) fun ds h1 => match ds with
  | [d, e] => .nx ((ρ.set i (some d)).set j (some e)) h1
  | _ => .bad
/-- targets -/
abbrev Fg := D → Rho → Option Rho
def gN (i : Nat) : Fg := fun d ρ => some (ρ.set i (some d))
def gT2 (i j : Nat) : Fg := fun d ρ => match d with | .tup [a, b] => some ((ρ.set i (some a)).set j (some b)) | _ => none
def gT3 (i j k : Nat) : Fg := fun d ρ => match d with | .tup [a, b, c] => some (((ρ.set i (some a)).set j (some b)).set k (some c)) | _ => none
def zAsg (t : Fg) (a : Fn) : Fs := fun ρ h => SRes.of ρ (a ρ h) fun d h1 => match t d ρ with | some ρ1 => .nx ρ1 h1 | none => .bad
/-- items -/
def setAt (o i v : D) (h : Hh) : Option Hh := match o, i with
  | .ref n, .int j => match h[n]? with
    | some (.lst ds) => match ixN ds.length j with
      | some k => some (h.set n (.lst (ds.set k v)))
      | none => none
    | _ => none
  | _, _ => none
def zSetIx (o i v : Fn) : Fs := fun ρ h => SRes.of ρ (v ρ h) fun v h1 => SRes.of ρ (o ρ h1) fun o h2 => SRes.of ρ (i ρ h2) fun i h3 => match setAt o i v h3 with | some h4 => .nx ρ h4 | none => .bad
/-- += of ints -/
def iaddD (a b : D) (h : Hh) : Res D := match a, b with
  | .int i, .int j => .ok (.int (i + j)) h
  | _, _ => .bad
/-- an item of a list, its place not negative -/
def lgetD (a b : D) (h : Hh) : Res D := match asL h a, b with
  | some ds, .int i => if decide (0 ≤ i) && decide (i < 2 ^ 63) then (match ds[i.toNat]? with | some d => .ok d h | none => .bad) else .bad
  | _, _ => .bad
def zAugIx (op : D → D → Hh → Res D) (o i v : Fn) : Fs := fun ρ h => SRes.of ρ (o ρ h) fun o h1 => SRes.of ρ (i ρ h1) fun i h2 => SRes.of ρ (lgetD o i h2) fun x h3 => SRes.of ρ (v ρ h3) fun y h4 => SRes.of ρ (op x y h4) fun z h5 => match setAt o i z h5 with | some h6 => .nx ρ h6 | none => .bad
/-- loops -/
def loopS (t : Fg) (b : Fs) : List D → Rho → Hh → SRes
  | [], ρ, h => .nx ρ h
  | d :: ds, ρ, h => match t d ρ with
    | none => .bad
    | some ρ1 => match b ρ1 h with
      | .nx ρ2 h2 => loopS t b ds ρ2 h2
      | .ct ρ2 h2 => loopS t b ds ρ2 h2
      | .bk ρ2 h2 => .nx ρ2 h2
      | r => r
def zFor (it : Fl) (t : Fg) (b : Fs) : Fs := fun ρ h => SRes.of ρ (it ρ h) fun ds h1 => loopS t b ds ρ h1

section
variable {g : Gx} {W : WX} {X : Cx} {a b c e tg iter : Expr} {pos p p2 : Pos} {fa fb fc : Fn} {es : List Expr} {fs : Fl} {st : Stmt} {sts : List Stmt} {za zb : Fs}
theorem q_snil : PSs X [] (tS g W zNext) := ⟨fun pins s σ H D I ⟨w, ρ, h, sr, o⟩ => pss_nil.run pins s σ H D I (o w H σ (Later.refl w H) sr)⟩
theorem q_seq (h1 : PS X st (tS g W za)) (h2 : PSs X sts (tS g W zb)) : PSs X (st :: sts) (tS g W (zSeq za zb)) :=
  ⟨fun pins s σ H D I ⟨w, ρ, h, sr, o⟩ => (pss_cons h1 h2).run pins s σ H D I ⟨w, ρ, h, sr, by
    unfold zSeq at o
    cases q : za ρ h with
    | nx ρ1 h1 => rw [q] at o; exact fun w' H' σ' l sr' => ⟨w', ρ1, h1, sr', OKs.mono l o⟩
    | rt d h1 => rw [q] at o; exact o
    | bk ρ1 h1 => rw [q] at o; exact o
    | ct ρ1 h1 => rw [q] at o; exact o
    | exc c ds ρ1 h1 => rw [q] at o; exact o
    | bad => rw [q] at o; exact o⟩⟩
theorem q_sone (h1 : PS X st (tS g W za)) : PSs X [st] (tS g W za) := pss_one h1
theorem q_pass : PS X (.Pass pos) (tS g W zNext) := ⟨fun pins s σ H D I ⟨w, ρ, h, sr, o⟩ => ps_pass.run pins s σ H D I (o w H σ (Later.refl w H) sr)⟩
theorem q_break : PS X (.Break pos) (tS g W zBreak) := ⟨fun pins s σ H D I ⟨w, ρ, h, sr, o⟩ => ps_break.run pins s σ H D I (o w H σ (Later.refl w H) sr)⟩
theorem q_continue : PS X (.Continue pos) (tS g W zCont) := ⟨fun pins s σ H D I ⟨w, ρ, h, sr, o⟩ => ps_continue.run pins s σ H D I (o w H σ (Later.refl w H) sr)⟩
theorem q_ret (ha : PE X a (tI g W fa)) : PS X (.Return (some a) pos) (tS g W (zRet fa)) :=
  ⟨fun pins s σ H D I ⟨w, ρ, h, sr, o⟩ => (ps_ret ha).run pins s σ H D I (sI_go sr o fun V H1 w1 d h1 l sr1 rv o1 => o1 w1 H1 V (Later.refl w1 H1) sr1.hr rv)⟩
theorem q_retN : PS X (.Return none pos) (tS g W zRetN) := ⟨fun pins s σ H D I ⟨w, ρ, h, sr, o⟩ => ps_retN.run pins s σ H D I (o w H .non (Later.refl w H) sr.hr .non)⟩
theorem q_if {t : Ft} {A B : List Stmt} (ht : PT X c (tT g W t)) (ha : PSs X A (tS g W za)) (hb : PSs X B (tS g W zb)) : PS X (.If c A B pos) (tS g W (zIf t za zb)) :=
  ⟨fun pins s σ H D I ⟨w, ρ, h, sr, o⟩ => (ps_if ht ha hb).run pins s σ H D I (sT_go sr o fun k H1 w1 h1 l sr1 o1 => by
    cases k with
    | true => exact ⟨w1, ρ, h1, sr1, o1⟩
    | false => exact ⟨w1, ρ, h1, sr1, o1⟩)⟩
theorem q_expr (hp : ∀ {te : TE}, PE X a te → PS X (.Expr a pos) (tDrop te)) (ha : PE X a (tI g W fa)) : PS X (.Expr a pos) (tS g W (zExpr fa)) :=
  ⟨fun pins s σ H D I ⟨w, ρ, h, sr, o⟩ => (hp ha).run pins s σ H D I (sI_go sr o fun V H1 w1 d h1 l sr1 rv o1 => o1 w1 H1 σ (Later.refl w1 H1) sr1)⟩
/-- name = value, by any rule of the layer for it -/
theorem q_set {i : Nat} {tgs : List Expr} {t : TE} (hp : PS X (.Assign tgs a pos) (tAsg t (gName i))) (ht : ∀ σ H Q, tI g W fa σ H Q → t σ H Q) : PS X (.Assign tgs a pos) (tS g W (zSet i fa)) :=
  ⟨fun pins s σ H D I ⟨w, ρ, h, sr, o⟩ => hp.run pins s σ H D I (ht _ _ _ (sI_go sr o fun V H1 w1 d h1 l sr1 rv o1 => o1 w1 H1 _ (Later.refl w1 H1) (sr1.set rv i)))⟩
theorem q_par {i j : Nat} {tgs : List Expr} (hp : PS X (.Assign tgs a pos) (tPar i j (tL g W fs))) : PS X (.Assign tgs a pos) (tS g W (zPar i j fs)) :=
  ⟨fun pins s σ H D I ⟨w, ρ, h, sr, o⟩ => hp.run pins s σ H D I (sL_go sr o fun Vs H1 w1 ds h1 l sr1 rvs o1 => by
    split at o1
    · obtain ⟨x, y, rfl, rx, ry⟩ := rvs2 rvs
      exact ⟨x, y, rfl, o1 w1 H1 _ (Later.refl w1 H1) ((sr1.set rx i).set ry j)⟩
    · exact o1.elim)⟩
theorem wipe_set (x : Option V) (i : Nat) : ∀ (σ : L2.St) (vs : List Nat), wipe (σ.set i x) vs = if i ∈ vs then wipe σ vs else (wipe σ vs).set i x
  | σ, [] => by simp [wipe]
  | σ, v :: vs => by
    show (wipe (σ.set i x) vs).set v none = _
    rw [wipe_set x i σ vs]
    by_cases h : i ∈ vs
    · rw [if_pos h, if_pos (List.mem_cons_of_mem _ h)]; rfl
    · rw [if_neg h]
      by_cases e : i = v
      · subst e
        rw [if_pos (List.mem_cons_self ..), List.set_set]; rfl
      · rw [if_neg (by simp [e, h]), List.set_comm _ _ e]; rfl
theorem wipe_in {x : Option V} {i : Nat} {σ : L2.St} {vs : List Nat} (h : i ∈ vs) : wipe (σ.set i x) vs = wipe σ vs := by rw [wipe_set, if_pos h]
/-- f stores into the slots is alone -/
def tG (g : Gx) (is : List Nat) (f : Fg) : TG := fun v σ H Q => ∃ w ρ h d ρ', SR g w ρ h σ H ∧ RV g w H d v ∧ f d ρ = some ρ' ∧ ∀ σ', SR g w ρ' h σ' H → (∀ vs, (∀ i ∈ is, i ∈ vs) → wipe σ' vs = wipe σ vs) → Q σ' H
theorem q_gn {i : Nat} {x : Str} (hp : PG X (.Name x pos) (gName i)) : PG X (.Name x pos) (tG g [i] (gN i)) :=
  ⟨fun pins s σ H v u Q I r ⟨w, ρ, h, d, ρ', sr, rv, e, q⟩ => hp.run pins s σ H v u Q I r (by
    simp only [gN, Option.some.injEq] at e
    subst e
    exact q _ (sr.set rv i) fun vs hv => wipe_in (hv i (by simp)))⟩
theorem q_gt2 {i j k : Nat} {es : List Expr} (hp : PG X (.Tuple es k pos) (gTup X.K 2 (gCons (gName i) (gCons (gName j) gNil)))) : PG X (.Tuple es k pos) (tG g [i, j] (gT2 i j)) :=
  ⟨fun pins s σ H v u Q I r ⟨w, ρ, h, d, ρ', sr, rv, e, q⟩ => hp.run pins s σ H v u Q I r (by
    unfold gT2 at e
    split at e
    · cases e
      obtain ⟨a, vs, rfl, hp, t⟩ := rv_tup rv
      obtain ⟨x, y, rfl, rx, ry⟩ := rvs2 t
      exact ⟨a, _, rfl, .inl (.inl hp), rfl, _, _, rfl, _, _, rfl, rfl, q _ ((sr.set rx i).set ry j) fun vs hv => (wipe_in (hv j (by simp))).trans (wipe_in (hv i (by simp)))⟩
    · cases e)⟩
theorem q_gt3 {i j l k : Nat} {es : List Expr} (hp : PG X (.Tuple es k pos) (gTup X.K 3 (gCons (gName i) (gCons (gName j) (gCons (gName l) gNil))))) : PG X (.Tuple es k pos) (tG g [i, j, l] (gT3 i j l)) :=
  ⟨fun pins s σ H v u Q I r ⟨w, ρ, h, d, ρ', sr, rv, e, q⟩ => hp.run pins s σ H v u Q I r (by
    unfold gT3 at e
    split at e
    · cases e
      obtain ⟨a, vs, rfl, hp, t⟩ := rv_tup rv
      cases t with
      | cons r1 t =>
        obtain ⟨x, y, rfl, rx, ry⟩ := rvs2 t
        exact ⟨a, _, rfl, .inl (.inl hp), rfl, _, _, rfl, _, _, rfl, _, _, rfl, rfl, q _ (((sr.set r1 i).set rx j).set ry l) fun vs hv => ((wipe_in (hv l (by simp))).trans (wipe_in (hv j (by simp)))).trans (wipe_in (hv i (by simp)))⟩
    · cases e)⟩
theorem q_asg {is : List Nat} {t : Fg} {tgs : List Expr} (hp : PS X (.Assign tgs a pos) (tAsg (tI g W fa) (tG g is t))) : PS X (.Assign tgs a pos) (tS g W (zAsg t fa)) :=
  ⟨fun pins s σ H D I ⟨w, ρ, h, sr, o⟩ => hp.run pins s σ H D I (sI_go sr o fun V H1 w1 d h1 l sr1 rv o1 => by
    split at o1
    · rename_i e
      exact ⟨w1, ρ, h1, d, _, sr1, rv, e, fun σ' sr' _ => o1 w1 H1 σ' (Later.refl w1 H1) sr'⟩
    · exact o1.elim)⟩
def tSetD (g : Gx) : TSet := fun o i v H Q => ∃ w h a b c h', HR g w h H ∧ RV g w H a o ∧ RV g w H b i ∧ RV g w H c v ∧ setAt a b c h = some h' ∧ ∀ w' H', Later w H w' H' → HR g w' h' H' → Q H'
theorem set_ok : PSet X (tSetD g) := by
  intro pins s σ H o i v ov iv u Q I r1 r2 r3 ⟨w, h, a, b, c, h', hr, ra, rb, rc, e, q⟩
  unfold setAt at e
  split at e
  · rename_i n j
    cases rb
    split at e
    · rename_i ds e1
      split at e
      · rename_i k e2
        cases e
        cases ra with
        | @ref _ p hp =>
          obtain ⟨nF, vs, e3, t⟩ := hr.ob n _ p e1 hp
          have mu : Mut (H p) := by rw [e3]; trivial
          refine set_list pins s σ H _ _ _ ov iv u Q I r1 r2 r3 ⟨p, vs, j, k, rfl, rfl, e3, by rw [← t.length]; exact e2, ?_⟩
          have l := later_put (o' := .lst (ds.set k c)) (ho := .lst (vs.set k v)) hr e1 hp nF mu
          exact q w _ l (hr_put hr e1 hp nF mu ⟨nF, _, upd_same, (t.set k rc).mono l⟩)
      · cases e
    · cases e
  · cases e
theorem q_setix {o i v : Expr} {fo fi fv : Fn} (hp : PS X (.Assign [.Subscript o i p2] v pos) (tAsg (tI g W fv) (gSub (tI g W fo) (tI g W fi) (tSetD g)))) : PS X (.Assign [.Subscript o i p2] v pos) (tS g W (zSetIx fo fi fv)) :=
  ⟨fun pins s σ H D I ⟨w, ρ, h, sr, o⟩ => hp.run pins s σ H D I (sI_go sr o fun V H1 w1 d1 h1 l1 sr1 rv1 o1 => sI_go sr1 o1 fun V2 H2 w2 d2 h2 l2 sr2 rv2 o2 => sI_go sr2 o2 fun V3 H3 w3 d3 h3 l3 sr3 rv3 o3 => by
    split at o3
    · rename_i e
      exact ⟨w3, h3, d2, d3, d1, _, sr3.hr, rv2.mono l3, rv3, (rv1.mono l2).mono l3, e, fun w' H' l hr => o3 w' H' σ l (sr3.step l hr)⟩
    · exact o3.elim)⟩
theorem get_ok {E : XK} : PGet X (rD g E lgetD) := by
  intro pins s σ H o i ov iv Q I r1 r2 ⟨w, h, d, e, hr, rd, re, q⟩
  unfold lgetD at q
  split at q
  · rename_i e1
    cases re
    split at q
    · rename_i hz
      simp only [Bool.and_eq_true, decide_eq_true_eq] at hz
      split at q
      · rename_i e2
        obtain ⟨p, vs, rfl, hp, t⟩ := asL_ok e1 hr rd
        obtain ⟨v, e3, rv⟩ := t.get e2
        cases r1
        obtain ⟨tk, rfl⟩ := r2
        obtain ⟨its, n, r, ho, _⟩ := lst_at I.hok hp
        obtain ⟨u, e4, ru⟩ := r.get e3
        exact wpAny_getItem_list (items := its.toArray) ⟨_, ho, rfl, n, rfl⟩ hz.1 hz.2 (by simpa using e4) ⟨v, H, I, ru, q.keep hr rv⟩
      · exact q.elim
    · exact q.elim
  · exact q.elim
theorem ipadd_ok {E : XK} : PIp X .Add (rD g E iaddD) := by
  intro pins s σ H x y v u Q I r1 r2 ⟨w, h, a, b, hr, ra, rb, q⟩
  unfold iaddD at q
  split at q
  · cases ra; cases rb
    exact ip_add pins s σ H _ _ v u Q I r1 r2 ⟨_, _, rfl, rfl, q.keep hr (.int _)⟩
  · exact q.elim
theorem q_augix {op : Operator} {f : D → D → Hh → Res D} {o i v : Expr} {fo fi fv : Fn} (hp : ∀ E, PS X (.AugAssign (.Subscript o i p2) op v pos) (tAugS (tI g W fo) (tI g W fi) (tI g W fv) (rD g E lgetD) (rD g E f) (tSetD g))) : PS X (.AugAssign (.Subscript o i p2) op v pos) (tS g W (zAugIx f fo fi fv)) :=
  ⟨fun pins s σ H D I ⟨w, ρ, h, sr, o⟩ => (hp (wAt W σ)).run pins s σ H D I (sI_go sr o fun V1 H1 w1 d1 h1 l1 sr1 rv1 o1 => sI_go sr1 o1 fun V2 H2 w2 d2 h2 l2 sr2 rv2 o2 => ⟨w2, h2, d1, d2, sr2.hr, rv1.mono l2, rv2,
    (OKs.of sr2 o2).imp fun V3 H3 ⟨w3, d3, h3, l3, hr3, rv3, o3⟩ => sI_go (sr2.step l3 hr3) o3 fun V4 H4 w4 d4 h4 l4 sr4 rv4 o4 => ⟨w4, h4, d3, d4, sr4.hr, rv3.mono l4, rv4,
      (OKs.of sr4 o4).imp fun V5 H5 ⟨w5, d5, h5, l5, hr5, rv5, o5⟩ => by
        split at o5
        · rename_i e
          exact ⟨w5, h5, d1, d2, d5, _, hr5, (((rv1.mono l2).mono l3).mono l4).mono l5, ((rv2.mono l3).mono l4).mono l5, rv5, e, fun w' H' l hr => o5 w' H' σ l ((sr4.step l5 hr5).step l hr)⟩
        · exact o5.elim⟩⟩)⟩
/-- the walk yields ds -/
def JOk (g : Gx) (J : It) (w : Wd) (H : Hp) (ds : List D) : Prop := ∀ w' H' h', Lv w H w' H' → HR g w' h' H' → ∀ i : Nat,
  (∀ d, ds[i]? = some d → J.go i H' ∧ ∀ x H'', J.yld i H' x H'' → ∃ w'', Later w' H' w'' H'' ∧ HR g w'' h' H'' ∧ RV g w'' H'' d x) ∧ (ds[i]? = none → J.stop i H')
abbrev RJ (g : Gx) : Wd → Hp → List D → It → Prop := fun w H ds J => JOk g J w H ds
def tIt (g : Gx) (W : WX) (f : Fl) : TI := fun σ H R => ∃ w ρ h, SR g w ρ h σ H ∧ OKg g (RJ g) w H (wAt W σ) R (f ρ h)
def itemsD (d : D) (h : Hh) : Res (List D) := match d with
  | .lst ds => .ok ds h
  | .tup ds => .ok ds h
  | .str x => .ok (x.cps.toList.map fun c => .str ⟨#[c]⟩) h
  | _ => .bad
def iV (a : Fn) : Fl := fun ρ h => (a ρ h).bind fun d h1 => itemsD d h1
theorem jok_list {K : PySem.W.Frag} {w : Wd} {H : Hp} {a : Addr} {vs : List V} {ds : List D} (hp : H a = some (.lst vs)) (hF : w.F a) (t : RVs g w H ds vs) : JOk g (Itl K a) w H ds := fun w' H' h' l hr i => by
  have e := l.lst a vs hF hp
  refine ⟨fun d hd => ?_, fun hd => ?_⟩
  · obtain ⟨v, e1, rv⟩ := (t.mono0 l).get hd
    refine ⟨⟨vs, v, .inl (.inl e), e1⟩, fun x H'' y => ?_⟩
    obtain ⟨rfl, y⟩ := y
    have e2 := y vs (.inl (.inl e))
    rw [e1] at e2
    cases e2
    exact ⟨w', Later.refl _ _, hr, rv⟩
  · exact ⟨vs, .inl (.inl e), by rw [← t.length]; exact List.getElem?_eq_none_iff.mp hd⟩
theorem jok_tup {K : PySem.W.Frag} {w : Wd} {H : Hp} {a : Addr} {vs : List V} {ds : List D} (hp : H a = some (.tup vs)) (t : RVs g w H ds vs) : JOk g (Itt K a) w H ds := fun w' H' h' l hr i => by
  have e := l.tup a vs hp
  refine ⟨fun d hd => ?_, fun hd => ?_⟩
  · obtain ⟨v, e1, rv⟩ := (t.mono0 l).get hd
    refine ⟨⟨vs, v, .inl (.inl e), e1⟩, fun x H'' y => ?_⟩
    obtain ⟨rfl, y⟩ := y
    have e2 := y vs (.inl (.inl e))
    rw [e1] at e2
    cases e2
    exact ⟨w', Later.refl _ _, hr, rv⟩
  · exact ⟨vs, .inl (.inl e), by rw [← t.length]; exact List.getElem?_eq_none_iff.mp hd⟩
theorem jok_str {w : Wd} {H : Hp} {x : Str} : JOk g (Its x) w H (x.cps.toList.map fun c => .str ⟨#[c]⟩) := fun w' H' h' l hr i => by
  refine ⟨fun d hd => ?_, fun hd => ?_⟩
  · rw [List.getElem?_map, Option.map_eq_some_iff] at hd
    obtain ⟨c, e, rfl⟩ := hd
    rw [Array.getElem?_toList] at e
    refine ⟨(Array.getElem?_eq_some_iff.mp e).1, fun v H'' y => ?_⟩
    obtain ⟨rfl, c', e', rfl⟩ := y
    rw [e] at e'
    cases e'
    exact ⟨w', Later.refl _ _, hr, .str _⟩
  · rw [List.getElem?_map, Option.map_eq_none_iff, Array.getElem?_toList] at hd
    exact Array.getElem?_eq_none_iff.mp hd
theorem q_it (ha : PE X a (tI g W fa)) : PI X tg a (tIt g W (iV fa)) := ⟨fun pins s σ H R I ⟨w, ρ, h, sr, o⟩ => by
  -- which rule depends on the value: decide it by running the tree first
  unfold iV at o
  cases q : fa ρ h with
  | bad => rw [q] at o; exact o.elim
  | exc c ds h1 =>
    rw [q] at o
    exact (pi_list ha).run pins s σ H R I ⟨w, ρ, h, sr, by rw [q]; exact o⟩
  | ok d h1 =>
    rw [q] at o
    have o : OKg g (RJ g) w H (wAt W σ) R (itemsD d h1) := o
    unfold itemsD at o
    split at o
    · rename_i ds
      refine (pi_list ha).run pins s σ H R I ⟨w, ρ, h, sr, ?_⟩
      rw [q]
      intro w' H' V l hr rv
      cases rv with
      | lst hp hF t => exact ⟨_, rfl, ⟨_, .inl (.inl hp)⟩, o w' H' _ l hr (jok_list hp hF t)⟩
    · rename_i ds
      refine (pi_tup ha).run pins s σ H R I ⟨w, ρ, h, sr, ?_⟩
      rw [q]
      intro w' H' V l hr rv
      obtain ⟨p, vs, rfl, hp, t⟩ := rv_tup rv
      exact ⟨_, rfl, ⟨_, .inl (.inl hp)⟩, o w' H' _ l hr (jok_tup hp t)⟩
    · rename_i x
      refine (pi_str ha).run pins s σ H R I ⟨w, ρ, h, sr, ?_⟩
      rw [q]
      intro w' H' V l hr rv
      cases rv
      exact ⟨_, rfl, o w' H' _ l hr jok_str⟩
    · exact o.elim⟩
def rng1D (ds : List D) (h : Hh) : Res (List D) := match ds with
  | [.int j] => if decide (-(2 ^ 62) ≤ j) && decide (j < 2 ^ 62) then .ok ((List.range j.toNat).map fun (k : Nat) => .int (0 + (k : Int))) h else .bad
  | _ => .bad
def rng2D (ds : List D) (h : Hh) : Res (List D) := match ds with
  | [.int i, .int j] => if decide (-(2 ^ 62) ≤ i) && decide (i < 2 ^ 62) && decide (-(2 ^ 62) ≤ j) && decide (j < 2 ^ 62) then .ok ((List.range (j - i).toNat).map fun (k : Nat) => .int (i + (k : Int))) h else .bad
  | _ => .bad
def iR1 (a : Fl) : Fl := fun ρ h => (a ρ h).bind fun ds h1 => rng1D ds h1
def iR2 (a : Fl) : Fl := fun ρ h => (a ρ h).bind fun ds h1 => rng2D ds h1
theorem jok_rng {w : Wd} {H : Hp} {lo : Int} {n : Nat} : JOk g (Itr lo n) w H ((List.range n).map fun (k : Nat) => .int (lo + (k : Int))) := fun w' H' h' l hr i => by
  refine ⟨fun d hd => ?_, fun hd => ?_⟩
  · rw [List.getElem?_map, Option.map_eq_some_iff] at hd
    obtain ⟨c, e, rfl⟩ := hd
    obtain ⟨hi, e⟩ := List.getElem?_eq_some_iff.mp e
    rw [List.getElem_range] at e
    subst e
    refine ⟨by rw [List.length_range] at hi; exact hi, fun v H'' y => ?_⟩
    obtain ⟨rfl, rfl⟩ := y
    exact ⟨w', Later.refl _ _, hr, .int _⟩
  · rw [List.getElem?_map, Option.map_eq_none_iff] at hd
    have := List.getElem?_eq_none_iff.mp hd
    rw [List.length_range] at this
    exact this
theorem q_rng1 (hp : ∀ {ta : TA}, PA X [a] ta → PI X tg (.Call (.Name "range" p) [a] [] pos) (iRng1 ta)) (ha : PA X [a] (tL g W fs)) : PI X tg (.Call (.Name "range" p) [a] [] pos) (tIt g W (iR1 fs)) :=
  ⟨fun pins s σ H R I ⟨w, ρ, h, sr, o⟩ => (hp ha).run pins s σ H R I (tL_go sr o fun Vs H1 w1 ds h1 l sr1 rvs o1 => by
    unfold rng1D at o1
    split at o1
    · split at o1
      · rename_i hz
        simp only [Bool.and_eq_true, decide_eq_true_eq] at hz
        obtain ⟨x, rfl, rx⟩ := rvs1 rvs
        cases rx
        exact ⟨_, rfl, hz.1, hz.2, o1 w1 H1 _ (Later.refl w1 H1) sr1.hr jok_rng⟩
      · exact o1.elim
    · exact o1.elim)⟩
theorem q_rng2 (hp : ∀ {ta : TA}, PA X [a, b] ta → PI X tg (.Call (.Name "range" p) [a, b] [] pos) (iRng2 ta)) (ha : PA X [a, b] (tL g W fs)) : PI X tg (.Call (.Name "range" p) [a, b] [] pos) (tIt g W (iR2 fs)) :=
  ⟨fun pins s σ H R I ⟨w, ρ, h, sr, o⟩ => (hp ha).run pins s σ H R I (tL_go sr o fun Vs H1 w1 ds h1 l sr1 rvs o1 => by
    unfold rng2D at o1
    split at o1
    · split at o1
      · rename_i hz
        simp only [Bool.and_eq_true, decide_eq_true_eq] at hz
        obtain ⟨x, y, rfl, rx, ry⟩ := rvs2 rvs
        cases rx; cases ry
        exact ⟨_, _, rfl, ⟨hz.1.1.1, hz.1.1.2, hz.1.2, hz.2⟩, o1 w1 H1 _ (Later.refl w1 H1) sr1.hr jok_rng⟩
      · exact o1.elim
    · exact o1.elim)⟩
theorem q_for {is : List Nat} {fi : Fl} {t : Fg} {body : List Stmt} (hp : ∀ {wi : TI} {gg : TG} {tb : TS}, PI X tg iter wi → PG X tg gg → PSs X body tb → PS X (.For tg iter body [] pos) (tFor wi gg tb))
    (hi : PI X tg iter (tIt g W fi)) (hg : PG X tg (tG g is t)) (hb : PSs X body (tS g W zb)) : PS X (.For tg iter body [] pos) (tS g W (zFor fi t zb)) :=
  ⟨fun pins s σ H D I ⟨w, ρ, h, sr, o⟩ => (hp hi hg hb).run pins s σ H D I ⟨w, ρ, h, sr, (OKs.of (R := RJ g) sr o).imp fun J H1 ⟨w1, ds, h1, l1, hr1, jo, o1⟩ => by
    refine ⟨fun i m σ' H' => m = ds.length - i ∧ i ≤ ds.length ∧ ∃ w' ρ' h', Later w1 H1 w' H' ∧ SR g w' ρ' h' σ' H' ∧ OKs g w' H' W D (loopS t zb (ds.drop i) ρ' h'), ⟨ds.length, rfl, Nat.zero_le _, w1, ρ, h1, Later.refl _ _, sr.step l1 hr1, o1⟩, ?_⟩
    rintro i m σ' H' ⟨rfl, hi, w', ρ', h', l', sr', o'⟩
    obtain ⟨jg, js⟩ := jo w' H' h' l'.toLv sr'.hr i
    cases hd : ds[i]? with
    | none =>
      have hn := List.getElem?_eq_none_iff.mp hd
      rw [List.drop_of_length_le hn] at o'
      exact .inl ⟨js hd, o' w' H' σ' (Later.refl _ _) sr'⟩
    | some d =>
      obtain ⟨hlt, hd'⟩ := List.getElem?_eq_some_iff.mp hd
      obtain ⟨go, yl⟩ := jg d hd
      rw [List.drop_eq_getElem_cons hlt, hd'] at o'
      refine .inr ⟨go, fun σ2 H2 => ∃ w2 ρ2 h2, Later w1 H1 w2 H2 ∧ SR g w2 ρ2 h2 σ2 H2 ∧ OKs g w2 H2 W D (loopS t zb (ds.drop (i + 1)) ρ2 h2), fun σ2 H2 ⟨w2, ρ2, h2, x1, x2, x3⟩ => ⟨ds.length - (i + 1), by omega, rfl, hlt, w2, ρ2, h2, x1, x2, x3⟩, fun x H'' y => ?_⟩
      obtain ⟨w'', l'', hr'', rv⟩ := yl x H'' y
      have sr'' := sr'.step l'' hr''
      have o'' := OKs.mono l'' o'
      unfold loopS at o''
      split at o''
      · exact o''.elim
      · rename_i ρ1 e1
        refine ⟨w'', ρ', h', d, ρ1, sr'', rv, e1, fun σ3 sr3 _ => ⟨w'', ρ1, h', sr3, ?_⟩⟩
        split at o''
        · rename_i ρ2 h2 e2
          rw [e2]
          exact fun w3 H3 σ4 l3 sr4 => ⟨w3, ρ2, h2, (l'.trans l'').trans l3, sr4, OKs.mono l3 o''⟩
        · rename_i ρ2 h2 e2
          rw [e2]
          exact fun w3 H3 σ4 l3 sr4 => ⟨w3, ρ2, h2, (l'.trans l'').trans l3, sr4, OKs.mono l3 o''⟩
        · rename_i ρ2 h2 e2
          rw [e2]
          exact o''
        · rename_i r n1 n2 n3
          cases q : zb ρ1 h' with
          | nx ρ2 h2 => exact absurd q (n1 ρ2 h2)
          | ct ρ2 h2 => exact absurd q (n2 ρ2 h2)
          | bk ρ2 h2 => exact absurd q (n3 ρ2 h2)
          | rt d2 h2 => rw [q] at o''; exact o''
          | exc c2 ds2 ρ2 h2 => rw [q] at o''; exact o''
          | bad => rw [q] at o''; exact o''⟩⟩
end
end Bx
namespace Bx
open PySem PySem.Spec PyProof.Rows L2

def wipeR (ρ : Rho) : List Nat → Rho
  | [] => ρ
  | v :: vs => (wipeR ρ vs).set v none
/-- the elements of a comprehension -/
def lcL (t : Fg) (c : Ft) (e : Fn) (ρ : Rho) : List D → Hh → Res (List D)
  | [], h => .ok [] h
  | d :: ds, h => match t d ρ with
    | none => .bad
    | some ρ1 => (c ρ1 h).bind fun k h1 => if k then (e ρ1 h1).bind fun x h2 => (lcL t c e ρ ds h2).bind fun xs h3 => .ok (x :: xs) h3 else lcL t c e ρ ds h1
/-- no exception may come out of it -/
def noX {α : Type} (r : Res α) : Res α := match r with
  | .exc _ _ _ => .bad
  | r => r
/-- the comprehension's list, frozen | by number -/
def lcE (it : Fl) (own : List Nat) (t : Fg) (c : Ft) (e : Fn) : Fl := fun ρ h => (it ρ h).bind fun ds h1 => if sz ds.length then noX (lcL t c e (wipeR ρ own) ds h1) else .bad

section
variable {g : Gx} {W : WX} {E : XK} {X : Cx} {w : Wd} {ρ : Rho} {h : Hh} {σ : L2.St} {H : Hp}
theorem wipe_sub (σ : L2.St) (vs : List Nat) : ∀ us : List Nat, (∀ u ∈ us, u ∈ vs) → L2.wipe (L2.wipe σ us) vs = L2.wipe σ vs
  | [], _ => rfl
  | u :: us, h => (wipe_in (h u (List.mem_cons_self ..))).trans (wipe_sub σ vs us fun x hx => h x (List.mem_cons_of_mem _ hx))
theorem wipe_twice (σ : L2.St) (vs : List Nat) : L2.wipe (L2.wipe σ vs) vs = L2.wipe σ vs := wipe_sub σ vs vs fun _ h => h
theorem SR.wipes (sr : SR g w ρ h σ H) : ∀ vs : List Nat, SR g w (wipeR ρ vs) h (L2.wipe σ vs) H
  | [] => sr
  | v :: vs => (SR.wipes sr vs).wipe v
/-- no exception within -/
abbrev EF : WX := fun _ _ _ _ => False
theorem noX_inv {α : Type} {r : Res α} {a : α} {h : Hh} (e : noX r = .ok a h) : r = .ok a h := by
  cases r with
  | ok a h => exact e
  | exc c ds h => cases e
  | bad => cases e
theorem bind_inv {α β : Type} {r : Res α} {k : α → Hh → Res β} {b : β} {h' : Hh} (e : r.bind k = .ok b h') : ∃ a h1, r = .ok a h1 ∧ k a h1 = .ok b h' := by
  cases r with
  | ok a h => exact ⟨a, h, rfl, e⟩
  | exc c ds h => cases e
  | bad => cases e
theorem RS.mono0 {w' : Wd} {H' : Hp} (l : Lv w H w' H') (r : RS g w H ρ σ) : RS g w' H' ρ σ := fun i d e => by
  obtain ⟨v, e1, r1⟩ := r i d e
  exact ⟨v, e1, r1.mono0 l⟩
theorem Lv.trans {w w' w'' : Wd} {H H' H'' : Hp} (a : Lv w H w' H') (b : Lv w' H' w'' H'') : Lv w H w'' H'' := by
  obtain ⟨x, ex⟩ := a.ext
  obtain ⟨y, ey⟩ := b.ext
  exact ⟨fun c h => b.frz c (a.frz c h), fun c u h r => b.rd c u (a.frz c h) (a.rd c u h r), fun c u h r => b.lst c u (a.frz c h) (a.lst c u h r), fun c o u h => b.sf c o u (a.sf c o u h), fun c o k h r => b.ins c o k (a.frz c h) (a.ins c o k h r), fun c xs h => b.tup c xs (a.tup c xs h), ⟨x ++ y, by rw [ey, ex, List.append_assoc]⟩⟩
/-- the loop of a comprehension; fin is told of the list's address, unknown so far to the world -/
theorem lc_run {is own : List Nat} {t : Fg} {c : Ft} {e : Fn} {ds es : List D} {h1 h2 : Hh} {J : It} {Qd : V → Hp → Prop} (sr : SR g w ρ h1 σ H) (jo : JOk g J w H ds) (hz : sz ds.length = true) (hi : ∀ i ∈ is, i ∈ own)
    (ee : lcL t c e (wipeR ρ own) ds h1 = .ok es h2)
    (fin : ∀ w2 H2 p vs, Later w H w2 H2 → HR g w2 h2 H2 → H2 p = some (.lst vs) → RVs g w2 H2 es vs → ¬ w2.F p → p ∉ w2.m → (∀ x ∈ w2.P, x.1 ≠ p) → Qd (.ref p) H2) :
    ∀ Da, H Da = none → ∃ W : Nat → Nat → Hp → Prop, (∃ m, W 0 m (upd H Da (.lst []))) ∧ ∀ i m H', W i m H' →
      (J.stop i H' ∧ Qd (.ref Da) H') ∨ (J.go i H' ∧ ∃ Nx : Hp → Prop, (∀ H'', Nx H'' → ∃ m', m' < m ∧ W (i + 1) m' H'') ∧ ∀ x H'', J.yld i H' x H'' → tG g is t x (wipe σ own) H'' fun σ2 H2 => wipe σ2 own = wipe σ own ∧ tT g EF c σ2 H2 fun b H3 =>
        if b = true then tI g EF e σ2 H3 fun y H4 => ∃ acc, H4 Da = some (.lst acc) ∧ acc.length < sizeLine ∧ Nx (upd H4 Da (.lst (acc ++ [y]))) else Nx H3) := by
  intro Da hDa
  have nP := sr.hr.np hDa
  refine ⟨fun i m H' => m = ds.length - i ∧ i ≤ ds.length ∧ ∃ (u : Wd) (h' : Hh) (acc es' : List D) (accV : List V), Lv w H u H' ∧ u.P = (Da, .lst accV) :: w.P ∧ HR g u h' H' ∧ RVs g u H' acc accV ∧ acc.length ≤ i ∧ lcL t c e (wipeR ρ own) (ds.drop i) h' = .ok es' h2 ∧ acc ++ es' = es,
    ⟨ds.length, rfl, Nat.zero_le _, w.hold Da (.lst []), h1, [], es, [], (later_new sr.hr hDa).toLv.trans (lv_of rfl fun _ z => z), rfl, hr_hold sr.hr hDa, .nil, Nat.le_refl _, ee, rfl⟩, ?_⟩
  rintro i m H' ⟨rfl, hi', u, h', acc, es', accV, lv, eP, hr, rvs, hlen, el, eapp⟩
  obtain ⟨jg, js⟩ := jo u H' h' lv hr i
  have held : H' Da = some (.lst accV) ∧ ¬ u.F Da ∧ Da ∉ u.m := hr.pr (Da, .lst accV) (by rw [eP]; exact List.mem_cons_self ..)
  cases hd : ds[i]? with
  | none =>
    have hn := List.getElem?_eq_none_iff.mp hd
    rw [List.drop_of_length_le hn] at el
    simp only [lcL, Res.ok.injEq] at el
    obtain ⟨rfl, rfl⟩ := el
    rw [List.append_nil] at eapp
    subst eapp
    refine .inl ⟨js hd, ?_⟩
    have lw : Lv u H' ⟨u.m, u.F, w.P⟩ H' := lv_of rfl fun _ z => z
    refine fin ⟨u.m, u.F, w.P⟩ H' Da accV ⟨lv.trans lw, rfl⟩ ?_ held.1 (rvs.mono0 lw) held.2.1 held.2.2 nP
    exact hr_P hr rfl rfl fun x hx => hr.pr x (by rw [eP]; exact List.mem_cons_of_mem _ hx)
  | some d =>
    obtain ⟨hlt, hd'⟩ := List.getElem?_eq_some_iff.mp hd
    obtain ⟨go, yl⟩ := jg d hd
    rw [List.drop_eq_getElem_cons hlt, hd'] at el
    unfold lcL at el
    split at el
    · cases el
    · rename_i ρ1 et
      obtain ⟨k, h3, ec, el⟩ := bind_inv el
      have next : ∀ {H4 : Hp} {u4 : Wd} {h4 : Hh} {acc' es'' : List D} {accV' : List V}, Lv w H u4 H4 → u4.P = (Da, .lst accV') :: w.P → HR g u4 h4 H4 → RVs g u4 H4 acc' accV' → acc'.length ≤ i + 1 → lcL t c e (wipeR ρ own) (ds.drop (i + 1)) h4 = .ok es'' h2 → acc' ++ es'' = es →
          ∃ m', m' < ds.length - i ∧ m' = ds.length - (i + 1) ∧ i + 1 ≤ ds.length ∧ ∃ (u : Wd) (h' : Hh) (acc es' : List D) (accV : List V), Lv w H u H4 ∧ u.P = (Da, .lst accV) :: w.P ∧ HR g u h' H4 ∧ RVs g u H4 acc accV ∧ acc.length ≤ i + 1 ∧ lcL t c e (wipeR ρ own) (ds.drop (i + 1)) h' = .ok es' h2 ∧ acc ++ es' = es :=
        fun a1 a2 a3 a4 a5 a6 a7 => ⟨ds.length - (i + 1), by omega, rfl, hlt, _, _, _, _, _, a1, a2, a3, a4, a5, a6, a7⟩
      refine .inr ⟨go, _, fun H'' z => z, fun x H'' y => ?_⟩
      obtain ⟨u2, l2, hr2, rv⟩ := yl x H'' y
      have lv2 := lv.trans l2.toLv
      have sr0 := sr.wipes own
      have sr2 : SR g u2 (wipeR ρ own) h' (wipe σ own) H'' := ⟨hr2, sr0.rs.mono0 lv2, sr0.ln⟩
      refine ⟨u2, _, h', d, ρ1, sr2, rv, et, fun σ' sr' hw => ⟨hw own hi |>.trans ?_, u2, ρ1, h', sr', ?_⟩⟩
      · exact wipe_twice σ own
      · rw [ec]
        intro u3 H3 b l3 hr3 rb
        subst rb
        have sr3 := sr'.step l3 hr3
        have eP3 : u3.P = (Da, .lst accV) :: w.P := by rw [l3.pr, l2.pr, eP]
        cases k with
        | false =>
          rw [if_neg Bool.false_ne_true]
          rw [if_neg Bool.false_ne_true] at el
          exact next (lv2.trans l3.toLv) eP3 hr3 ((rvs.mono l2).mono l3) (by omega) el eapp
        | true =>
          rw [if_pos rfl]
          rw [if_pos rfl] at el
          obtain ⟨y, h4, ey, el⟩ := bind_inv el
          obtain ⟨ys, h5, eys, el⟩ := bind_inv el
          simp only [Res.ok.injEq] at el
          obtain ⟨rfl, rfl⟩ := el
          refine ⟨u3, ρ1, h3, sr3, ?_⟩
          rw [ey]
          intro u4 H4 vy l4 hr4 rvy
          have eP4 : u4.P = (Da, .lst accV) :: w.P := by rw [l4.pr, eP3]
          obtain ⟨q1, q2, q3⟩ := hr4.pr (Da, .lst accV) (by rw [eP4]; exact List.mem_cons_self ..)
          have rv4 := ((rvs.mono l2).mono l3).mono l4
          refine ⟨accV, q1, ?_, ?_⟩
          · have := sz_le hz
            rw [← rv4.length]
            omega
          · have hu4 : u4 = (⟨u4.m, u4.F, w.P⟩ : Wd).hold Da (.lst accV) := by
              cases u4 with
              | mk m F P => simp only at eP4; subst eP4; rfl
            rw [hu4] at hr4
            obtain ⟨r1, r2⟩ := hr_rehold hr4 (by rw [q1]; trivial) nP (.lst (accV ++ [vy]))
            have l5 : Lv u4 H4 ((⟨u4.m, u4.F, w.P⟩ : Wd).hold Da (.lst (accV ++ [vy]))) (upd H4 Da (.lst (accV ++ [vy]))) :=
              (lv_of (w := u4) (w' := ⟨u4.m, u4.F, w.P⟩) rfl fun _ z => z).trans (r2.trans (lv_of rfl fun _ z => z))
            refine next (acc' := acc ++ [y]) (((lv2.trans l3.toLv).trans l4.toLv).trans l5) rfl r1 ((rv4.append (.one rvy)).mono0 l5) (by rw [List.length_append, List.length_singleton]; omega) eys ?_
            rw [List.append_assoc]
            exact eapp
theorem bind_assoc {α β γ : Type} (r : Res α) (f : α → Hh → Res β) (k : β → Hh → Res γ) : (r.bind f).bind k = r.bind fun a h => (f a h).bind k := by cases r <;> rfl
/-- a thing that the world did not know gets the next number -/
theorem hr_num {p : Addr} {o : O} (q : HR g w h H) (hm : p ∉ w.m) (hP : ∀ x ∈ w.P, x.1 ≠ p) (hob : OR g (w.new p) H p o) : HR g (w.new p) (h ++ [o]) H ∧ Later w H (w.new p) H := by
  have l : Later w H (w.new p) H := ⟨⟨fun _ z => z, fun _ _ _ r => r, fun _ _ _ r => r, fun _ _ _ r => r, fun _ _ _ _ r => r, fun _ _ r => r, ⟨[p], rfl⟩⟩, rfl⟩
  refine ⟨⟨by simp [Wd.new, q.len], ?_, q.fz, fun i o1 a e1 e2 => ?_, fun x hx => ?_⟩, l⟩
  · show (w.m ++ [p]).Nodup
    rw [List.nodup_append]
    refine ⟨q.nd, by simp, fun a ha b hb => ?_⟩
    have : b = p := by simpa using hb
    subst this
    exact fun z => hm (z ▸ ha)
  · by_cases hi : i < h.length
    · rw [List.getElem?_append_left hi] at e1
      have e2' : w.m[i]? = some a := by
        have e2 : (w.m ++ [p])[i]? = some a := e2
        rw [List.getElem?_append_left (by rw [q.len]; exact hi)] at e2
        exact e2
      exact (q.ob i o1 a e1 e2').mono l Iff.rfl (.inl rfl)
    · have hi' : i = h.length := by
        have := (List.getElem?_eq_some_iff.mp e1).1
        simp at this
        omega
      subst hi'
      rw [List.getElem?_append_right (Nat.le_refl _)] at e1
      simp at e1
      have e2 : (w.m ++ [p])[h.length]? = some a := e2
      rw [← q.len, List.getElem?_append_right (Nat.le_refl _)] at e2
      simp at e2
      subst e1 e2
      exact hob
  · obtain ⟨e1, e2, e3⟩ := q.pr x hx
    refine ⟨e1, e2, fun z => ?_⟩
    rcases List.mem_append.mp (show x.1 ∈ w.m ++ [p] from z) with z | z
    · exact e3 z
    · exact hP x hx (by simpa using z)
/-- how the list is handed on: f is known to hand it on, frozen or by number -/
def Hands (g : Gx) (E : XK) (f : List D → Hh → Res D) : Prop := ∀ (w w2 : Wd) (H H2 : Hp) (h2 : Hh) (p : Addr) (vs : List V) (es : List D) (Q : VK), OKg g (RV g) w H E Q (f es h2) → Later w H w2 H2 → HR g w2 h2 H2 → H2 p = some (.lst vs) → RVs g w2 H2 es vs → ¬ w2.F p → p ∉ w2.m → (∀ x ∈ w2.P, x.1 ≠ p) → Q (.ref p) H2
theorem hands_frz : Hands g E (fun es h2 => .ok (.lst es) h2) := fun w w2 H H2 h2 p vs es Q o l hr hp rv nF nm nP =>
  o (w2.frz p) H2 (.ref p) (l.trans (later_frz hr)) (hr_frz hr nm ⟨_, hp⟩ nP) (.lst hp (.inl rfl) (rv.mono (later_frz hr)))
theorem hands_num : Hands g E (fun es h2 => .ok (.ref h2.length) (h2 ++ [.lst es])) := fun w w2 H H2 h2 p vs es Q o l hr hp rv nF nm nP => by
  have l0 : Later w2 H2 (w2.new p) H2 := ⟨⟨fun _ z => z, fun _ _ _ r => r, fun _ _ _ r => r, fun _ _ _ r => r, fun _ _ _ _ r => r, fun _ _ r => r, ⟨[p], rfl⟩⟩, rfl⟩
  obtain ⟨k1, k2⟩ := hr_num (o := .lst es) hr nm nP ⟨nF, vs, hp, rv.mono l0⟩
  exact o (w2.new p) H2 (.ref p) (l.trans k2) k1 (.ref (by show (w2.m ++ [p])[h2.length]? = some p; rw [← hr.len]; simp))
def xLcG (f : List D → Hh → Res D) (it : Fl) (own : List Nat) (t : Fg) (c : Ft) (e : Fn) : Fn := fun ρ h => (lcE it own t c e ρ h).bind f
theorem lc_rd {f : List D → Hh → Res D} (hf : ∀ E, Hands g E f) {fi : Fl} {is own : List Nat} {t : Fg} {c : Ft} {e : Fn} (hi : ∀ i ∈ is, i ∈ own) {Q : VK} (hq : tI g W (xLcG f fi own t c e) σ H Q) :
    tLc (tIt g W fi) (tG g is t) (tT g EF c) (tI g EF e) own σ H Q := by
  obtain ⟨w, ρ, h, sr, o⟩ := hq
  unfold xLcG lcE at o
  rw [bind_assoc] at o
  refine ⟨w, ρ, h, sr, (OKg.bind (R := RJ g) o).imp fun J H1 ⟨w1, ds, h1, l, hr1, jo, o1⟩ => ?_⟩
  split at o1
  · rename_i hz
    cases q : noX (lcL t c e (wipeR ρ own) ds h1) with
    | bad => rw [q] at o1; exact o1.elim
    | exc c0 d0 h0 =>
      exfalso
      cases q' : lcL t c e (wipeR ρ own) ds h1 <;> (rw [q'] at q; cases q)
    | ok es h2 =>
      rw [q] at o1
      exact lc_run (sr.step l hr1) jo hz hi (noX_inv q) fun w2 H2 p vs l2 hr2 hp rv nF nm nP => hf (wAt W σ) w1 w2 H1 H2 h2 p vs es Q o1 l2 hr2 hp rv nF nm nP
  · exact o1.elim
theorem q_pts0 : PTs X [] (tT g W yYes) := ⟨fun pins s σ H Q I ⟨w, ρ, h, sr, o⟩ => pts_nil.run pins s σ H Q I (o w H true (Later.refl w H) sr.hr rfl)⟩
end
end Bx
namespace Bx
open PySem PySem.Spec PyProof.Rows L2
mutual
inductive Bel (n : Nat) : D → Prop
  | non : Bel n .non
  | bl (b : Bool) : Bel n (.bl b)
  | int (i : Int) : Bel n (.int i)
  | str (x : Str) : Bel n (.str x)
  | val (v : V) : Bel n (.val v)
  | scr (ns : List Int) : Bel n (.scr ns)
  | ref {k : Nat} : k < n → Bel n (.ref k)
  | tup {ds : List D} : Bels n ds → Bel n (.tup ds)
  | lst {ds : List D} : Bels n ds → Bel n (.lst ds)
  | dct {kds : List (Key × D)} : Bels n (kds.map (·.2)) → Bel n (.dct kds)
  | obj {c : Str} {fds : List (Str × D)} : Bels n (fds.map (·.2)) → Bel n (.obj c fds)
  | exn {c : Str} {ds : List D} : Bels n ds → Bel n (.exn c ds)
inductive Bels (n : Nat) : List D → Prop
  | nil : Bels n []
  | cons {d : D} {ds : List D} : Bel n d → Bels n ds → Bels n (d :: ds)
end
theorem Bels.of {n : Nat} : ∀ {ds : List D}, (∀ d ∈ ds, Bel n d) → Bels n ds
  | [], _ => .nil
  | d :: ds, h => .cons (h d (List.mem_cons_self ..)) (Bels.of fun x hx => h x (List.mem_cons_of_mem _ hx))
theorem Bels.mem {n : Nat} : ∀ {ds : List D}, Bels n ds → ∀ d ∈ ds, Bel n d
  | _, .nil, d, h => by cases h
  | _, .cons a r, d, h => by
    rcases List.mem_cons.mp h with e | h
    · rw [e]; exact a
    · exact Bels.mem r d h
mutual
theorem Bel.mono {n m : Nat} (h : n ≤ m) : ∀ {d : D}, Bel n d → Bel m d
  | _, .non => .non
  | _, .bl b => .bl b
  | _, .int b => .int b
  | _, .str b => .str b
  | _, .val b => .val b
  | _, .scr b => .scr b
  | _, .ref k => .ref (Nat.lt_of_lt_of_le k h)
  | _, .tup b => .tup (Bels.mono h b)
  | _, .lst b => .lst (Bels.mono h b)
  | _, .dct b => .dct (Bels.mono h b)
  | _, .obj b => .obj (Bels.mono h b)
  | _, .exn b => .exn (Bels.mono h b)
theorem Bels.mono {n m : Nat} (h : n ≤ m) : ∀ {d : List D}, Bels n d → Bels m d
  | _, .nil => .nil
  | _, .cons a b => .cons (Bel.mono h a) (Bels.mono h b)
end
def OB (n : Nat) : O → Prop
  | .lst ds => Bels n ds
  | .dct kds => Bels n (kds.map (·.2))
  | .ins _ fds => Bels n (fds.map (·.2))
  | .gone => True
def Keep (h h' : Hh) : Prop := ∀ (i : Nat) (o : O), i < h.length → h'[i]? = some o → h[i]? = some o ∨ OB h.length o
open Classical in
/-- what a call leaves: nothing that is not asked for -/
noncomputable def endC (h : Hh) (r : Res D) : Res D := match r with
  | .ok d h' => if Keep h h' then (if Bel h.length d then .ok d (h'.take h.length) else match d with
      | .ref k => match h'[k]? with
        | some o => if h.length ≤ k ∧ OB h.length o then .ok (.ref h.length) (h'.take h.length ++ [o]) else .ok d h'
        | none => .ok d h'
      | d => .ok d h') else .ok d h'
  | .exc c ds h' => if Keep h h' ∧ Bels h.length ds then .exc c ds (h'.take h.length) else .exc c ds h'
  | .bad => .bad
section
variable {g : Gx} {w w' : Wd} {H : Hp} {h : Hh} {n : Nat}
mutual
theorem RV.bel : ∀ {d : D} {v : V}, RV g w H d v → Bel w.m.length d
  | _, _, .non => .non
  | _, _, .bl b => .bl b
  | _, _, .int i => .int i
  | _, _, .str x => .str x
  | _, _, .tup _ t => .tup (RVs.bel t)
  | _, _, .lst _ _ t => .lst (RVs.bel t)
  | _, _, .dct _ _ t => .dct (RVs.bel t)
  | _, _, .obj _ _ _ _ t => .obj (RVs.bel t)
  | _, _, .exn _ _ _ t => .exn (RVs.bel t)
  | _, _, .ref h => .ref (List.getElem?_eq_some_iff.mp h).1
  | _, _, .scr _ => .scr _
  | _, _, .val v => .val v
theorem RVs.bel : ∀ {ds : List D} {vs : List V}, RVs g w H ds vs → Bels w.m.length ds
  | _, _, .nil => .nil
  | _, _, .cons r t => .cons (RV.bel r) (RVs.bel t)
end
mutual
theorem RV.re (hm : ∀ k a, k < n → w.m[k]? = some a → w'.m[k]? = some a) (hF : ∀ a, w.F a → w'.F a) : ∀ {d : D} {v : V}, RV g w H d v → Bel n d → RV g w' H d v
  | _, _, .non, _ => .non
  | _, _, .bl b, _ => .bl b
  | _, _, .int i, _ => .int i
  | _, _, .str x, _ => .str x
  | _, _, .tup a t, .tup b => .tup a (RVs.re hm hF t b)
  | _, _, .lst a f t, .lst b => .lst a (hF _ f) (RVs.re hm hF t b)
  | _, _, .dct a e t, .dct b => .dct a e (RVs.re hm hF t b)
  | _, _, .obj a f e1 e2 t, .obj b => .obj a (hF _ f) e1 e2 (RVs.re hm hF t b)
  | _, _, .exn a e1 e2 t, .exn b => .exn ⟨hF _ a.1, a.2.imp id fun ⟨d, z1, z2, z3⟩ => ⟨d, z1, hF _ z2, z3⟩⟩ e1 e2 (RVs.re hm hF t b)
  | _, _, .ref h, .ref k => .ref (hm _ _ k h)
  | _, _, .scr h, _ => .scr h
  | _, _, .val v, _ => .val v
theorem RVs.re (hm : ∀ k a, k < n → w.m[k]? = some a → w'.m[k]? = some a) (hF : ∀ a, w.F a → w'.F a) : ∀ {ds : List D} {vs : List V}, RVs g w H ds vs → Bels n ds → RVs g w' H ds vs
  | _, _, .nil, _ => .nil
  | _, _, .cons r t, .cons a b => .cons (RV.re hm hF r a) (RVs.re hm hF t b)
end
theorem or_ob {a : Addr} {o : O} (r : OR g w H a o) : OB w.m.length o := by
  cases o with
  | lst ds => obtain ⟨_, vs, _, t⟩ := r; exact t.bel
  | dct kds => obtain ⟨_, vs, _, _, t⟩ := r; exact t.bel
  | ins c fds => obtain ⟨_, C, dx, fs, _, _, _, t⟩ := r; exact t.bel
  | gone => trivial
theorem or_re {a : Addr} {o : O} (hm : ∀ k a, k < n → w.m[k]? = some a → w'.m[k]? = some a) (hF : w'.F = w.F) (r : OR g w H a o) (b : OB n o) : OR g w' H a o := by
  have hF' : ∀ a, w.F a → w'.F a := fun a z => by rw [hF]; exact z
  cases o with
  | lst ds => obtain ⟨n, vs, e, t⟩ := r; exact ⟨by rw [hF]; exact n, vs, e, t.re hm hF' b⟩
  | dct kds => obtain ⟨n, vs, e, e', t⟩ := r; exact ⟨by rw [hF]; exact n, vs, e, e', t.re hm hF' b⟩
  | ins c fds => obtain ⟨n, C, dx, fs, e, e1, e2, t⟩ := r; exact ⟨by rw [hF]; exact n, C, dx, fs, e, e1, e2, t.re hm hF' b⟩
  | gone => exact hF' a r
theorem take_at {α : Type} {l : List α} {n k : Nat} {a : α} (hk : k < n) (e : l[k]? = some a) : (l.take n)[k]? = some a := by rw [List.getElem?_take_of_lt hk]; exact e
theorem hr_cut (q : HR g w h H) (hb : ∀ i o, i < n → h[i]? = some o → OB n o) : HR g ⟨w.m.take n, w.F, w.P⟩ (h.take n) H := by
  refine ⟨by simp [q.len], (List.take_sublist n w.m).nodup q.nd, q.fz, fun i o a e1 e2 => ?_, fun p hp => ?_⟩
  · have hi : i < n := by
      have z := (List.getElem?_eq_some_iff.mp e1).1
      rw [List.length_take] at z
      omega
    rw [List.getElem?_take_of_lt hi] at e1
    have e2' : (w.m.take n)[i]? = some a := e2
    rw [List.getElem?_take_of_lt hi] at e2'
    exact or_re (w' := ⟨w.m.take n, w.F, w.P⟩) (fun k a hk e => take_at hk e) rfl (q.ob i o a e1 e2') (hb i o hi e1)
  · obtain ⟨k1, k2, k3⟩ := q.pr p hp
    exact ⟨k1, k2, fun z => k3 (List.mem_of_mem_take z)⟩
theorem hr_ren (q : HR g w h H) (hn : n ≤ h.length) (hb : ∀ i o, i < n → h[i]? = some o → OB n o) {k : Nat} {o : O} {a : Addr} (hk : n ≤ k) (ho : h[k]? = some o) (ha : w.m[k]? = some a) (hob : OB n o) : HR g ⟨w.m.take n ++ [a], w.F, w.P⟩ (h.take n ++ [o]) H := by
  have hl : (w.m.take n).length = n := by rw [List.length_take, q.len]; omega
  have hl2 : (h.take n).length = n := by rw [List.length_take]; omega
  have re : ∀ k b, k < n → w.m[k]? = some b → (w.m.take n ++ [a])[k]? = some b := fun k b hk e => by
    rw [List.getElem?_append_left (by rw [hl]; exact hk)]
    exact take_at hk e
  have na : a ∉ w.m.take n := fun z => by
    obtain ⟨i, hi, e⟩ := List.getElem_of_mem z
    rw [hl] at hi
    have e1 : w.m[i]? = some a := by
      rw [List.getElem_take] at e
      rw [List.getElem?_eq_getElem (by rw [q.len]; omega), e]
    obtain ⟨h1, e1'⟩ := List.getElem?_eq_some_iff.mp ha
    obtain ⟨h2, e2'⟩ := List.getElem?_eq_some_iff.mp e1
    have := (List.getElem_inj q.nd).mp (e1'.trans e2'.symm)
    omega
  refine ⟨?_, ?_, q.fz, fun i o1 b e1 e2 => ?_, fun p hp => ?_⟩
  · show (w.m.take n ++ [a]).length = _
    rw [List.length_append, List.length_append, hl, hl2]
    rfl
  · show (w.m.take n ++ [a]).Nodup
    rw [List.nodup_append]
    refine ⟨(List.take_sublist n w.m).nodup q.nd, by simp, fun b hb c hc => ?_⟩
    have : c = a := by simpa using hc
    subst this
    exact fun z => na (z ▸ hb)
  · by_cases hi : i < n
    · rw [List.getElem?_append_left (by rw [hl2]; exact hi), List.getElem?_take_of_lt hi] at e1
      have e2' : (w.m.take n ++ [a])[i]? = some b := e2
      rw [List.getElem?_append_left (by rw [hl]; exact hi), List.getElem?_take_of_lt hi] at e2'
      exact or_re (w' := ⟨w.m.take n ++ [a], w.F, w.P⟩) re rfl (q.ob i o1 b e1 e2') (hb i o1 hi e1)
    · have z := (List.getElem?_eq_some_iff.mp e1).1
      rw [List.length_append, hl2, List.length_singleton] at z
      have hi' : i = n := by omega
      subst hi'
      rw [List.getElem?_append_right (by rw [hl2]; exact Nat.le_refl _), hl2, Nat.sub_self] at e1
      have e2' : (w.m.take i ++ [a])[i]? = some b := e2
      rw [List.getElem?_append_right (by rw [hl]; exact Nat.le_refl _), hl, Nat.sub_self] at e2'
      simp at e1 e2'
      subst e1 e2'
      exact or_re (w' := ⟨w.m.take i ++ [a], w.F, w.P⟩) re rfl (q.ob k o a ho ha) hob
  · obtain ⟨k1, k2, k3⟩ := q.pr p hp
    refine ⟨k1, k2, fun z => ?_⟩
    rcases List.mem_append.mp (show p.1 ∈ w.m.take n ++ [a] from z) with z | z
    · exact k3 (List.mem_of_mem_take z)
    · exact k3 (by have : p.1 = a := by simpa using z
                   rw [this]; exact List.mem_of_getElem? ha)
end
section
variable {g : Gx} {w w' : Wd} {H H' : Hp} {h h' : Hh} {E : XK} {Q : VK}
theorem Later.cut (l : Later w H w' H') (x : List Addr) : Later w H ⟨w'.m.take w.m.length ++ x, w'.F, w'.P⟩ H' := by
  obtain ⟨y, e⟩ := l.ext
  exact ⟨⟨l.frz, l.rd, l.lst, l.sf, l.ins, l.tup, ⟨x, by show w'.m.take w.m.length ++ x = _; rw [e, List.take_left]⟩⟩, l.pr⟩
theorem keep_ob (hr : HR g w h H) (k : Keep h h') : ∀ i o, i < h.length → h'[i]? = some o → OB h.length o := fun i o hi e => by
  rcases k i o hi e with z | z
  · have hi' : i < w.m.length := by rw [hr.len]; exact hi
    have ha : w.m[i]? = some w.m[i] := List.getElem?_eq_getElem hi'
    have := or_ob (hr.ob i o _ z ha)
    rw [hr.len] at this
    exact this
  · exact z
theorem len_le (hr : HR g w h H) (hr' : HR g w' h' H') (l : Later w H w' H') : h.length ≤ h'.length := by
  obtain ⟨y, e⟩ := l.ext
  have := congrArg List.length e
  rw [List.length_append, hr.len, hr'.len] at this
  omega
theorem OKg.endC {r : Res D} (hr : HR g w h H) (o : OKg g (RV g) w H E Q (endC h r)) : OKg g (RV g) w H E Q r := by
  have hl := hr.len
  cases r with
  | bad => exact o
  | exc c ds h' =>
    simp only [Bx.endC] at o
    split at o
    · rename_i k
      intro w' H' C d l hr' xr
      have hc := hr_cut (n := h.length) hr' (keep_ob hr k.1)
      have lc := l.cut []
      rw [List.append_nil, hl] at lc
      refine o _ H' C d lc hc ?_
      obtain ⟨x1, x2⟩ := xr
      refine ⟨x1, ?_⟩
      rcases x2 with x2 | ⟨a, fs, y1, y2, y0, y3⟩
      · exact .inl x2
      · exact .inr ⟨a, fs, y1, y2, y0, RVs.re (w' := ⟨w'.m.take h.length, w'.F, w'.P⟩) (fun k a hk e => take_at hk e) (fun _ z => z) y3 k.2⟩
    · exact o
  | ok d h' =>
    simp only [Bx.endC] at o
    split at o
    · rename_i k
      split at o
      · rename_i b
        intro w' H' v l hr' rv
        have hc := hr_cut (n := h.length) hr' (keep_ob hr k)
        have lc := l.cut []
        rw [List.append_nil, hl] at lc
        exact o _ H' v lc hc (RV.re (w' := ⟨w'.m.take h.length, w'.F, w'.P⟩) (fun k a hk e => take_at hk e) (fun _ z => z) rv b)
      · split at o
        · split at o
          · rename_i kk o1 e1
            split at o
            · rename_i z
              intro w' H' v l hr' rv
              cases rv with
              | @ref _ a ha =>
                have hc := hr_ren (n := h.length) hr' (len_le hr hr' l) (keep_ob hr k) z.1 e1 ha z.2
                have lc := l.cut [a]
                rw [hl] at lc
                refine o _ H' (.ref a) lc hc (.ref ?_)
                show (w'.m.take h.length ++ [a])[h.length]? = some a
                have h1 : (w'.m.take h.length).length = h.length := by
                  rw [List.length_take, hr'.len]
                  have := len_le hr hr' l
                  omega
                rw [List.getElem?_append_right (by rw [h1]; exact Nat.le_refl _), h1, Nat.sub_self]
                rfl
            · exact o
          · exact o
        · exact o
    · exact o
theorem keep_refl (h : Hh) : Keep h h := fun i o _ e => .inl e
theorem keep_app (h x : Hh) : Keep h (h ++ x) := fun i o hi e => .inl (by rwa [List.getElem?_append_left hi] at e)
theorem endC_same {d : D} {h h' : Hh} (hl : h'.length = h.length) (k : Keep h h') (hb : Bel h.length d) : Bx.endC h (.ok d h') = .ok d h' := by
  simp only [Bx.endC, if_pos k, if_pos hb]
  rw [List.take_of_length_le (Nat.le_of_eq hl)]
/-- the heap is as long as ahead: nothing is cut, whatever is given -/
theorem endC_len {d : D} {h h' : Hh} (hl : h'.length = h.length) : Bx.endC h (.ok d h') = .ok d h' := by
  simp only [Bx.endC]
  split
  · split
    · rw [List.take_of_length_le (Nat.le_of_eq hl)]
    · rename_i nb
      split
      · rename_i k
        split
        · rename_i o e
          split
          · rename_i z
            have := (List.getElem?_eq_some_iff.mp e).1
            omega
          · rfl
        · rfl
      · rfl
  · rfl
@[simp] theorem endC_cons {d : D} {o o' : O} {r : Hh} : Bx.endC (o :: r) (.ok d (o' :: r)) = .ok d (o' :: r) := endC_len rfl
@[simp] theorem endC_self {d : D} {h : Hh} : Bx.endC h (.ok d h) = .ok d h := endC_len rfl
theorem endC_xlen {c : Str} {ds : List D} {h h' : Hh} (hl : h'.length = h.length) : Bx.endC h (.exc c ds h') = .exc c ds h' := by
  simp only [Bx.endC]
  split
  · rw [List.take_of_length_le (Nat.le_of_eq hl)]
  · rfl
@[simp] theorem endC_xcons {c : Str} {ds : List D} {o o' : O} {r : Hh} : Bx.endC (o :: r) (.exc c ds (o' :: r)) = .exc c ds (o' :: r) := endC_xlen rfl
@[simp] theorem endC_xself {c : Str} {ds : List D} {h : Hh} : Bx.endC h (.exc c ds h) = .exc c ds h := endC_xlen rfl
theorem endC_cut {d : D} {h x : Hh} (hb : Bel h.length d) : Bx.endC h (.ok d (h ++ x)) = .ok d h := by
  simp only [Bx.endC, if_pos (keep_app h x), if_pos hb, List.take_left']
theorem endC_new {h x : Hh} {k : Nat} {o : O} (ho : (h ++ x)[k]? = some o) (hk : h.length ≤ k) (hb : OB h.length o) : Bx.endC h (.ok (.ref k) (h ++ x)) = .ok (.ref h.length) (h ++ [o]) := by
  have nb : ¬ Bel h.length (.ref k) := fun z => by
    cases z with
    | ref z => omega
  simp only [Bx.endC, if_pos (keep_app h x), if_neg nb, ho, if_pos (And.intro hk hb), List.take_left']
end
end Bx
namespace Bx
open PySem PySem.Spec PyProof.Rows L2

/-- room for k calls, four in reserve, and no repr under way -/
structure RmG (k : Nat) (A : Around) : Prop where
  rm : Room (k + 4) A
  gd : A.guards = some []
/-- the def at f keeps its promise (as FnOk, where no repr is under way) -/
structure FnG (P : Program) (w : World) (g : Gx) (base : Heap) (CX : CXT) (k : Nat) (f : Addr) (fd : FuncData) (ps : List Str) (sp : Sp) : Prop where
  len : ∀ vs H Q E, sp vs H Q E → vs.length = ps.length
  go : ∀ (A : Around) (out : List Env) (s : Shared) (H : Hp) (ar : Args) (us : List Value) (vs : List V) (Q : VK) (E : XK), RmG k A → Env0 P w g.K g.mg base A out s H → BindsTo s fd ar (ps.zip us) → Vals vs us → sp vs H Q E →
    codeAny (model P w) A (.call (.ref f) ar) (CR CX out P w H s Q E) s

/-- a def: how many parameters, how many names, what its body does -/
structure Fd where
  np : Nat
  nl : Nat
  body : (Str → List D → Hh → Res D) → Fs
abbrev Tab := Str → Option Fd
def startR (n : Nat) (ds : List D) : Rho := ds.map some ++ List.replicate (n - ds.length) none
/-- what a body's end gives -/
def endB : SRes → Res D
  | .rt d h => .ok d h
  | .nx _ h => .ok .non h
  | .exc c ds _ h => .exc c ds h
  | _ => .bad
noncomputable def callN (T : Tab) : Nat → Str → List D → Hh → Res D
  | 0, _, _, _ => .bad
  | k + 1, f, ds, h => match T f with
    | none => .bad
    | some fd => if ds.length = fd.np then endC h (endB (fd.body (callN T k) (startR fd.nl ds) h)) else .bad
def spN (g : Gx) (c : List D → Hh → Res D) (n : Nat) : Sp := fun vs H Q E => ∃ w h ds, HR g w h H ∧ RVs g w H ds vs ∧ ds.length = n ∧ OKg g (RV g) w H E Q (c ds h)

section
variable {g : Gx} {w : Wd} {H : Hp} {h : Hh}
theorem rvs_start {ds : List D} {vs : List V} {N : List Str} (hr : HR g w h H) (r : RVs g w H ds vs) : SR g w (startR N.length ds) h (start N vs) H := by
  refine ⟨hr, fun i d e => ?_, ?_⟩
  · unfold startR at e
    by_cases hi : i < ds.length
    · rw [List.getElem?_append_left (by simpa using hi), List.getElem?_map, Option.map_eq_some_iff] at e
      obtain ⟨d', e1, e2⟩ := e
      cases e2
      obtain ⟨v, e3, rv⟩ := r.get e1
      refine ⟨v, ?_, rv⟩
      unfold L2.start
      rw [List.getElem?_append_left (by rw [List.length_map, ← r.length]; exact hi), List.getElem?_map, e3]
      rfl
    · rw [List.getElem?_append_right (by simpa using hi), List.getElem?_replicate] at e
      split at e <;> cases e
  · unfold startR L2.start
    rw [List.length_append, List.length_append, List.length_map, List.length_map, List.length_replicate, List.length_replicate, r.length]
end

section
variable {P : Program} {wo : World} {g : Gx} {base : Heap} {T : Tab} {k : Nat}
/-- what is known of the defs of T at the level k -/
def Defs (P : Program) (wo : World) (g : Gx) (base : Heap) (T : Tab) (k : Nat) : Prop := ∀ (x : Str) (fd : Fd), T x = some fd →
  ∃ f fdat ps, g.mg x = some (.ref f) ∧ PySem.W.keepIn g.K (.ref f) = true ∧ Binds g.K fdat ps [] ∧ ps.length = fd.np ∧ FnG P wo g base (L2.CX P wo) k f fdat ps (spN g (callN T k x) fd.np)

variable {X : Cx}
/-- f(e, ..) -/
theorem q_call {W : WX} {x : Str} {p pos : Pos} {e : Expr} {es : List Expr} {fs : Fl} {fd : Fd} (xo : XO g X) (hP : X.prog = P) (hw : X.w = wo) (hb : X.base = base) (DS : Defs P wo g base T k) (hx : T x = some fd) (hr : RmG k X.A) (tk : Takes X W) (hg : Gl X x) (ha : PA X (e :: es) (tL g W fs))
    (hdb : (x == ("__debug__" : Str)) = false := by decide +kernel) (he : starEach (e :: es) X.env = (false, eval e X.env) :: starEach es X.env := by rfl) (hpl : (backTo pos (starEach es X.env)).any (·.1) = false := by rfl) :
    PE X (.Call (.Name x p) (e :: es) [] pos) (tI g W (xCall fd.np (callN T k x) fs)) := by
  obtain ⟨f, fdat, ps, hm, hk, hbi, hl, F⟩ := DS x fd hx
  subst hP hw hb
  rw [← xo.mg] at hm
  rw [← xo.K] at hk
  refine ⟨fun pins s σ H Q I ⟨w, ρ, h, sr, o⟩ => ?_⟩
  refine wpAny_Call_Name_kw (ld_glob I hg hm ?_ hdb)
  have ar : tL g W fs σ H (fun vs H1 => spN g (callN T k x) fd.np vs H1 Q (wAt W σ)) := tL_go sr o fun Vs H1 w1 ds h1 l sr1 rvs o1 => by
    split at o1
    · rename_i hn
      exact ⟨w1, h1, ds, sr1.hr, rvs, hn, o1⟩
    · exact o1.elim
  refine PySem.W.callWith_K (h₀ := X.base) I.ok.mod.kin hk (thn (ha.run pos pins s σ H _ I ar) fun us s1 ⟨vs, H1, I1, r, q⟩ => ⟨I1.kIn, ?_⟩) he hpl
  have hlen : us.length = ps.length := by rw [← r.length]; exact F.len _ _ _ _ q
  have env1 : Env0 X.prog X.w g.K g.mg X.base X.A X.stack s1 H1 := by have z := I1.env0; rw [xo.K, xo.mg] at z; exact z
  have bd : BindsTo s1 fdat ⟨us, []⟩ (ps.zip us) := by
    have z := hbi s1 us (by rw [← xo.K]; exact I1.kIn) (by simpa using hlen)
    rwa [List.append_nil] at z
  refine wpAny_call (codeAny_mono (F.go X.A X.stack s1 H1 ⟨us, []⟩ us vs Q (wAt W σ) hr env1 bd r q) fun res s' hq => ?_)
  cases res with
  | error ex => exact tk ex s' (XE.of_call I1 (fun _ _ _ z => z) hq)
  | ok fl =>
    cases fl with
    | ret u => exact I1.after hq
    | next => exact hq.elim
    | brk => exact hq.elim
    | cont => exact hq.elim

/-- the context of a def's body -/
abbrev bx (P : Program) (wo : World) (g : Gx) (base : Heap) (N : List Str) (qual : Str) (scope : Scope) (f : Addr) (cdv : Value) (A : Around) (out : List Env) (s : Shared) (H : Hp) (E : XK) : Cx := cxOf (L2.CX P wo) P wo g.K g.mg base N qual scope f cdv A out s H E
theorem bx_ok {N ps : List Str} {qual : Str} {scope : Scope} {f : Addr} {cdv : Value} {A : Around} {out : List Env} {s : Shared} {H : Hp} {E : XK} (S : FnScope N ps scope) (hr : RmG k (A.deeper (envOfC qual scope s.heap.objs.size f cdv))) : XO g (bx P wo g base N qual scope f cdv A out s H E) :=
  ⟨rfl, rfl, rfl, S.nd, by have z := hr.rm.un; show (A.deeper _).units + 200 < cLine; omega, hr.gd⟩
/-- a def by its body -/
theorem fnG_of {f : Addr} {x qual : Str} {st : Stmt} {fdat : FuncData} {N ps : List Str} {fd : Fd} (F : Fun g.K x qual st f fdat) (S : FnScope N ps (defScope st)) (hnp : ps.length = fd.np) (hnl : N.length = fd.nl)
    (hb : ∀ (cdv : Value) (A : Around) (out : List Env) (s : Shared) (H : Hp) (E : XK), RmG k (A.deeper (envOfC qual (defScope st) s.heap.objs.size f cdv)) → PSs (bx P wo g base N qual (defScope st) f cdv A out s H E) (defBody st) (tS g (fun c d _ H => E c d H) (fd.body (callN T k))))
    {y : Str} (hT : T y = some fd) : FnG P wo g base (L2.CX P wo) (k + 1) f fdat ps (spN g (callN T (k + 1) y) fd.np) := by
  obtain ⟨oc, od, kV, doc, pm, an, cdv, ct, osl, rfl, lk, hcd⟩ := F.ex
  have len : ∀ vs H Q E, spN g (callN T (k + 1) y) fd.np vs H Q E → vs.length = ps.length := fun vs H Q E ⟨w, h, ds, _, r, hn, _⟩ => by rw [← r.length, hn, hnp]
  refine ⟨len, fun A out s H ar us vs Q E hr e0 hbd r hsp => ?_⟩
  have KX : g.K.In s.heap := e0.mod.kin.keeps fun b o e => (e0.bs b o e).1
  have lim : s.heap.NoLimit := e0.mod.nolimit.keeps fun b o e => (e0.bs b o e).1
  have kinds : ∀ z ∈ ps.zip us, (defScope st).names.lookup z.1 = some .local ∨ ((defScope st).names.lookup z.1 = some .cell ∧ ((cellsFrom (s.heap.objs.size + 1) (defScope st).names []).lookup z.1).isSome = true) := fun ⟨n, v⟩ hz => by
    rcases S.par n (List.of_mem_zip hz).1 with q | q
    · exact .inl q
    · exact .inr ⟨q, PySem.W.cellsFrom_some _ _ _ (.inl q)⟩
  refine codeAny_call_function hr.rm.depth (KX _ _ lk) rfl S.co S.gen rfl (PySem.W.codeRec_of KX hcd) (hbd _ _ _ _ ?_)
  refine wpAny_newFunctionEnv_cells S.kind kinds fun env he s1 xx => ?_
  subst he
  refine ⟨lim.keeps xx.toInCall.keep, codeAny_func ?_⟩
  have hr2 : RmG k (A.deeper (envOfC qual (defScope st) s.heap.objs.size f cdv)) := ⟨hr.rm.deeper _, hr.gd⟩
  have hPS : PSs (cxOf (L2.CX P wo) P wo g.K g.mg base N qual (defScope st) f cdv A out s H E) (defBody st) (tS g (fun c d _ H => E c d H) (fd.body (callN T k))) := hb cdv A out s H E hr2
  have hl := len _ _ _ _ hsp
  have I : Inv (cxOf (L2.CX P wo) P wo g.K g.mg base N qual (defScope st) f cdv A out s H E) [] (start N vs) H s1 := inv_start S hr.rm.hd e0 hl r xx
  obtain ⟨w, h, ds, hr0, rvs, hn, o⟩ := hsp
  have rd : tS g (fun c d _ H => E c d H) (fd.body (callN T k)) { nx := fun _ H' => Q .non H', rt := Q } (start N vs) H := by
    refine ⟨w, startR N.length ds, h, rvs_start hr0 rvs, ?_⟩
    simp only [callN, hT, hn, if_true] at o
    rw [hnl]
    have o := OKg.endC hr0 o
    generalize fd.body (callN T k) (startR fd.nl ds) h = r0 at o
    cases r0 with
    | rt d h' => exact o
    | nx ρ h' => exact fun w' H' σ' l sr => o w' H' .non l sr.hr .non
    | bk ρ h' => exact o.elim
    | ct ρ h' => exact o.elim
    | exc c d ρ' h' => exact fun w' H' σ' C dd l sr xr => o w' H' C dd l sr.hr xr
    | bad => exact o.elim
  refine wpAny_mono (hPS.run [] s1 (start N vs) H _ I rd) (fun fl s' hs => ?_) fun e s' hs => hs
  cases fl with
  | ret u =>
    obtain ⟨v, σ', H', J, rv, q⟩ := hs
    exact ⟨v, H', J.os, J.bare, J.base, J.hok, rv, q⟩
  | next =>
    obtain ⟨σ', H', J, q⟩ := hs
    exact ⟨.non, H', J.os, J.bare, J.base, J.hok, rfl, q⟩
  | brk => obtain ⟨_, _, _, q⟩ := hs; exact q.elim
  | cont => obtain ⟨_, _, _, q⟩ := hs; exact q.elim
/-- level 0: nothing is asked -/
theorem fnG_zero {f : Addr} {fdat : FuncData} {ps : List Str} {n : Nat} {y : Str} (hl : ps.length = n) : FnG P wo g base (L2.CX P wo) 0 f fdat ps (spN g (callN T 0 y) n) :=
  ⟨fun vs H Q E ⟨w, h, ds, _, r, hn, _⟩ => by rw [← r.length, hn, hl], fun _ _ _ _ _ _ _ _ _ _ _ _ _ ⟨_, _, _, _, _, _, o⟩ => o.elim⟩
/-- one row of facts a def -/
structure Row (P : Program) (wo : World) (g : Gx) (base : Heap) (T : Tab) (x : Str) (fd : Fd) : Prop where
  ex : ∃ (f : Addr) (fdat : FuncData) (ps : List Str), g.mg x = some (.ref f) ∧ PySem.W.keepIn g.K (.ref f) = true ∧ Binds g.K fdat ps [] ∧ ps.length = fd.np ∧
    ∀ k, Defs P wo g base T k → FnG P wo g base (L2.CX P wo) (k + 1) f fdat ps (spN g (callN T (k + 1) x) fd.np)
theorem defs_all (R : ∀ x fd, T x = some fd → Row P wo g base T x fd) : ∀ k, Defs P wo g base T k
  | 0 => fun x fd hx => by
    obtain ⟨f, fdat, ps, h1, h2, h3, h4, _⟩ := (R x fd hx).ex
    exact ⟨f, fdat, ps, h1, h2, h3, h4, fnG_zero h4⟩
  | k + 1 => fun x fd hx => by
    obtain ⟨f, fdat, ps, h1, h2, h3, h4, h5⟩ := (R x fd hx).ex
    exact ⟨f, fdat, ps, h1, h2, h3, h4, h5 k (defs_all R k)⟩
end
end Bx
namespace Bx
open PySem PySem.Spec PyProof.Rows L2
/-- the law's call, at the heap behind the top: the tree's run says True -/
theorem law_goes {P : Program} {wo : World} {g : Gx} {mb : Str → Option Value} {k : Nat} {fa a : Addr} {T : Tab} {y : Str} {s₁ : Shared} {vs : List Value} {ns : List Int} {hE : Hh} {fd : FuncData} {x : Str}
    (KX : g.K.In s₁.heap) (hns : s₁.heap.Ns mainGlobals g.mg) (hb : s₁.heap.Ns builtinsNs mb) (hbb : ∀ x : Str, x ≠ "__name__" → mb x = bootBuiltins x) (hlim : s₁.heap.NoLimit) (hg : s₁.gens = #[])
    (ha : s₁.heap.get? a = some { cls := .type "list", data := .seq vs.toArray }) (hi : IntsAre vs ns) (hl : ns.length ≤ sizeLine) (hr : RmG k callerA)
    (F : ∀ base : Heap, g.K.In base → base.Ns mainGlobals g.mg → FnG P wo g base (L2.CX P wo) k fa fd [x] (spN g (callN T k y) 1)) (hbind : ∀ (s : Shared) (u : Value), BindsTo s fd ⟨[u], []⟩ [(x, u)])
    (hrun : callN T k y [.scr ns] [] = .ok (.bl true) hE) :
    codeAny (model P wo) callerA (.call (.ref fa) ⟨[.ref a], []⟩) (fun r s' => r = .ok (.ret (.bool true)) ∧ OldK s₁.heap s'.heap ∧ s'.os = s₁.os ∧ AllBare s'.gens) s₁ := by
  have rv := vals_ints hi
  have lenV := hi.length
  -- H tells of nothing but the script
  have main : ∀ H : Hp, (∀ b u, H b = some u → b = a ∧ ∃ o xs, u = .frz o (.lst xs)) → ScrAt g H a ns → HOk P wo H s₁.heap → (∀ u, H a = some u → g.K.lookup a = none) →
      codeAny (model P wo) callerA (.call (.ref fa) ⟨[.ref a], []⟩) (fun r s' => r = .ok (.ret (.bool true)) ∧ OldK s₁.heap s'.heap ∧ s'.os = s₁.os ∧ AllBare s'.gens) s₁ := by
    intro H only hS hok hK
    have none_of : ∀ {b : Addr}, (∀ u, H b = some u → False) → H b = none := fun {b} z => by
      cases q : H b with
      | none => rfl
      | some u => exact (z u q).elim
    have dn : ∀ {b : Addr} {o : Obj} {es : Array DictEntry} {ep : Nat}, s₁.heap.get? b = some o → o.data = .dict es ep → H b = none := fun {b o es ep} e d => none_of fun u q => by
      obtain ⟨rfl, _⟩ := only b u q
      rw [ha] at e
      cases e
      have d' : Data.seq vs.toArray _ = Data.dict es ep := d
      cases d'
    have ns_of : ∀ {b : Addr} {m : Str → Option Value}, s₁.heap.Ns b m → (hidT s₁.heap H).Ns b m := fun {b m} ⟨o, es, ep, e, d, r⟩ => ⟨o, es, ep, hidT_get e (dn e d), d, r⟩
    have kb : g.K.In (hidT s₁.heap H) := fun b o e => hidT_get (KX b o e) (none_of fun u q => by
      obtain ⟨rfl, _⟩ := only b u q
      rw [hK u q] at e
      cases e)
    have md : Mod g.K g.mg (hidT s₁.heap H) := ⟨kb, ns_of hns, ⟨mb, ns_of hb, hbb⟩, let ⟨mc, z1, z2⟩ := hlim; ⟨mc, ns_of z1, z2⟩⟩
    have ev : Env0 P wo g.K g.mg (hidT s₁.heap H) callerA [] s₁ H := ⟨rfl, md, fun b o e => of_hidT e, Nat.le_of_eq (hidT_size _ _), trivial, fun b z => absurd (show b ∈ ([] : List Addr) from z) (by simp), hok, .of_eq hg⟩
    have sp : spN g (callN T k y) 1 [.ref a] H (fun v _ => v = .bl true) (fun _ _ _ => False) := by
      refine ⟨⟨[], fun _ => False, []⟩, [], [.scr ns], ⟨rfl, List.nodup_nil, fun _ z => z.elim, fun i o b e => by simp at e, fun p z => absurd (show p ∈ ([] : List (Addr × HO)) from z) (by simp)⟩, .cons (.scr hS) .nil, rfl, ?_⟩
      rw [hrun]
      intro w' H' v _ _ r
      cases r
      rfl
    refine codeAny_mono ((F _ kb (ns_of hns)).go callerA [] s₁ H ⟨[.ref a], []⟩ [.ref a] [.ref a] _ _ hr ev (hbind s₁ (.ref a)) (.cons rfl .nil) sp) fun r s' q => ?_
    cases r with
    | error e =>
      obtain ⟨_, _, _, _, _, _, _, _, _, _, _, _, z⟩ := q
      exact z.elim
    | ok fl =>
      cases fl with
      | next => exact q.elim
      | brk => exact q.elim
      | cont => exact q.elim
      | ret u =>
        obtain ⟨v, H', os, bare, un, hok', r', qv⟩ := q
        have qv' : v = .bl true := qv
        subst qv'
        obtain rfl : u = Value.bool true := r'
        refine ⟨rfl, OldK.of_keep fun b o e => ?_, os, bare⟩
        cases hb' : H b with
        | none => exact un.keep b o e hb' (fun z => absurd (show b ∈ ([] : List Addr) from z) (by simp)) (by simp)
        | some u =>
          obtain ⟨_, ob, xs, rfl⟩ := only b u hb'
          have z2 := un.frzs b ob _ hb'
          obtain ⟨e1, _⟩ := hok b _ hb'
          obtain ⟨e2, _⟩ := hok' b _ z2
          rw [e] at e1
          cases e1
          exact e2
  cases hk : g.K.lookup a with
  | some o =>
    have e := KX a o hk
    rw [ha] at e
    cases e
    exact main (fun _ => none) (fun b u z => (nomatch z)) (.inr ⟨_, vs.toArray, _, hk, rfl, rfl, rfl, by rw [List.size_toArray, lenV]; exact hl, by simpa using rv⟩) (fun b u z => (nomatch z)) fun u z => (nomatch z)
  | none =>
    refine main (fun b => if b = a then some (.frz { cls := .type "list", data := .seq vs.toArray } (.lst (ns.map V.int))) else none) (fun b u z => ?_) (.inl ⟨_, if_pos rfl⟩) (fun b u z => ?_) fun u z => hk
    · by_cases hba : b = a
      · have z' := (if_pos hba).symm.trans z
        cases z'
        exact ⟨hba, _, _, rfl⟩
      · have z' := (if_neg hba).symm.trans z
        cases z'
    · by_cases hba : b = a
      · have z' := (if_pos hba).symm.trans z
        cases z'
        subst hba
        exact ⟨ha, by rw [List.length_map]; exact hl, vs, _, rv, ha⟩
      · have z' := (if_neg hba).symm.trans z
        cases z'
/-- the goal that k_head leaves -/
theorem law_walk {l : PySem.W.OpenLaw} {n k : Nat} {q : Program} {loose : List Str} {XP : (Str → Option Value) → Heap → Prop} {YP : World → Heap → Prop} {d : DefRec} {K : Params → PySem.W.Frag} {T : Tab} {x y : Str}
    (hn : l.most = some n) (hn2 : n ≤ sizeLine) (hdf : d.params.defaults = []) (hr : RmG k callerA) (hY : ∀ (w : World) (h : Heap), YP w h → (K w.params).In h)
    (F : ∀ (w : World) (mg : Str → Option Value) (fa : Addr) (h : Heap), (K w.params).In h → h.Ns mainGlobals mg → mg d.name = some (.ref fa) →
      ∃ fd : FuncData, (∀ (s : Shared) (u : Value), BindsTo s fd ⟨[u], []⟩ [(x, u)]) ∧ ∀ base : Heap, (K w.params).In base → base.Ns mainGlobals mg → FnG l.prog w ⟨K w.params, mg⟩ base (L2.CX l.prog w) k fa fd [x] (spN ⟨K w.params, mg⟩ (callN T k y) 1))
    (hrun : ∀ ns : List Int, ns.length ≤ n → ∃ hE, callN T k y [.scr ns] [] = .ok (.bl true) hE) :
    PySem.W.WalkO q loose XP YP l.row.toRowW d [] (fun f vs => PySem.call f vs) := by
  refine Att.attach_call hn hdf fun w s₀ s₁ mg mb fa o pm cd doc a vs ns G Y ho hd hcd hmg hobj hints hlen hg => ?_
  have KX := hY w _ Y
  obtain ⟨fd, hb, hF⟩ := F w mg fa _ KX G.T.g hmg
  obtain ⟨hE, he⟩ := hrun ns hlen
  exact law_goes (g := ⟨K w.params, mg⟩) KX G.T.g G.T.b G.T.builtins G.T.nolimit hg hobj hints (Nat.le_trans hlen hn2) hr hF hb he
end Bx
namespace Bx
open PySem PySem.Spec PyProof.Rows L2

/-- a list of texts, or a tuple of them -/
def joinD (s : Str) (b : D) (h : Hh) : Res D := match asS h b with
  | some ds => match strsOf ds with
    | some ys => if decide ((ys.map (·.length)).sum + ys.length * s.length ≤ 16777216) then .ok (.str (Txt.join s ys)) h else .bad
    | none => .bad
  | none => .bad
def splitD (s : Str) (b : D) (h : Hh) : Res D := match b with
  | .str t => if !(t.length == 0) && decide (s.length + 2 ≤ sizeLine) then .ok (.lst ((Txt.split s t).map .str)) h else .bad
  | _ => .bad
def xStr1 (f : Str → D → Hh → Res D) (a b : Fn) : Fn := fun ρ h => (a ρ h).bind fun x h1 => match x with
  | .str s => (b ρ h1).bind fun y h2 => f s y h2
  | _ => .bad
/-- the methods of lists by number -/
def appD (a b : D) (h : Hh) : Res D := match a with
  | .ref n => match h[n]? with
    | some (.lst ds) => if decide (ds.length < sizeLine) then .ok .non (h.set n (.lst (ds ++ [b]))) else .bad
    | _ => .bad
  | _ => .bad
def extD (a b : D) (h : Hh) : Res D := match a with
  | .ref n => match h[n]?, asL h b with
    | some (.lst ds), some es => if sz (ds.length + es.length) then .ok .non (h.set n (.lst (ds ++ es))) else .bad
    | _, _ => .bad
  | _ => .bad
def clrD (a : D) (h : Hh) : Res D := match a with
  | .ref n => match h[n]? with
    | some (.lst ds) => .ok .non (h.set n (.lst []))
    | _ => .bad
  | _ => .bad
/-- written dicts -/
def xInW (wd : List (Str × D)) (a : Fn) : Fn := fun ρ h => (a ρ h).bind fun x h1 => match x with | .str z => .ok (.bl (wd.lookup z).isSome) h1 | _ => .bad
def optD (o : Option D) (h : Hh) : Res D := match o with | some d => .ok d h | none => .bad
def xIdxW (wd : List (Str × D)) (a : Fn) : Fn := fun ρ h => (a ρ h).bind fun x h1 => match x with | .str z => optD (wd.lookup z) h1 | _ => .bad
/-- the module's name x is a written dict with the entries wd -/
structure KW (g : Gx) (wo : World) (x : Str) (wd : List (Str × D)) : Prop where
  ex : ∃ (d : Addr) (es : Array DictEntry) (n : Nat), g.mg x = some (.ref d) ∧ KDict g.K wo d es n ∧ ∀ z : Str,
    (wd.lookup z = none ∧ PySem.W.nsIn g.K d z = some none) ∨ ∃ dd u v, wd.lookup z = some dd ∧ PySem.W.nsIn g.K d z = some (some u) ∧ RelV v u ∧ ∀ w H, RV g w H dd v

section
variable {g : Gx} {W : WX} {E : XK} {X : Cx} {a b o e : Expr} {fa fb : Fn} {pos p apos : Pos} {wd : List (Str × D)} {x : Str} {wo : World}
theorem q_inW (xo : XO g X) (hw : X.w = wo) (k : KW g wo x wd) (hg : Gl X x) (ha : PE X a (tI g W fa)) (hd : (x == ("__debug__" : Str)) = false := by decide +kernel) : PE X (.Compare a [.In] [.Name x p] pos) (tI g W (xInW wd fa)) := by
  obtain ⟨d, es, n, hm, kd, kn⟩ := k.ex
  subst hw
  rw [← xo.mg] at hm
  rw [← xo.K] at kd kn
  refine ⟨fun pins s σ H Q I ⟨w, ρ, h, sr, q⟩ => (pe_cmpR (op_in_kd kd) ha (pe_glob (v := .ref d) hg hm rfl hd) rfl).run pins s σ H Q I (tI_go sr q fun V H1 w1 x h1 l sr1 rv o1 => ?_)⟩
  split at o1
  · rename_i z
    cases rv
    rcases kn z with ⟨e1, e2⟩ | ⟨dd, u, v, e1, e2, e3, e4⟩
    · rw [e1] at o1
      exact ⟨z, none, rfl, rfl, e2, o1.keep sr1.hr (.bl _)⟩
    · rw [e1] at o1
      exact ⟨z, some u, rfl, rfl, e2, o1.keep sr1.hr (.bl _)⟩
  · exact o1.elim
theorem q_idxW (xo : XO g X) (hw : X.w = wo) (k : KW g wo x wd) (hg : Gl X x) (ha : PE X a (tI g W fa)) (hs : PlainIx a := by intro _ _; rfl) (hd : (x == ("__debug__" : Str)) = false := by decide +kernel) : PE X (.Subscript (.Name x p) a pos) (tI g W (xIdxW wd fa)) := by
  obtain ⟨d, es, n, hm, kd, kn⟩ := k.ex
  subst hw
  rw [← xo.mg] at hm
  rw [← xo.K] at kd kn
  refine ⟨fun pins s σ H Q I ⟨w, ρ, h, sr, q⟩ => (pe_ix ix_kdict (pe_glob (v := .ref d) hg hm rfl hd) ha hs).run pins s σ H Q I (tI_go sr q fun V H1 w1 x h1 l sr1 rv o1 => ?_)⟩
  split at o1
  · rename_i z
    cases rv
    rcases kn z with ⟨e1, e2⟩ | ⟨dd, u, v, e1, e2, e3, e4⟩
    · rw [e1] at o1
      exact o1.elim
    · rw [e1] at o1
      exact ⟨d, z, v, rfl, rfl, ⟨es, n, u, kd.at_, kd.lit, e2, e3⟩, OKg.keep (a := dd) o1 sr1.hr (e4 _ _)⟩
  · exact o1.elim
/-- text.m(e) -/
theorem q_str1 {f : Str → D → Hh → Res D} {r : V → List V → Hp → VK → Prop} {e0 : Expr} (hp : ∀ {to te : TE}, PE X o to → PE X e te → PE X e0 (tM1 r to te)) (ho : PE X o (tI g W fa)) (he : PE X e (tI g W fb))
    (hr : ∀ E w H h s d V Q, HR g w h H → RV g w H d V → OKg g (RV g) w H E Q (f s d h) → r (.str s) [V] H Q) : PE X e0 (tI g W (xStr1 f fa fb)) :=
  ⟨fun pins s σ H Q I ⟨w, ρ, h, sr, q⟩ => (hp ho he).run pins s σ H Q I (tI_go sr q fun V H1 w1 d h1 l sr1 rv o1 => by
    split at o1
    · cases rv
      exact ⟨⟨_, rfl⟩, tI_go sr1 o1 fun V2 H2 w2 d2 h2 l2 sr2 rv2 o2 => hr (wAt W σ) w2 H2 h2 _ d2 V2 Q sr2.hr rv2 o2⟩
    · exact o1.elim)⟩
theorem join_r {w : Wd} {H : Hp} {h : Hh} {s : Str} {d : D} {y : V} {Q : VK} (hr : HR g w h H) (rv : RV g w H d y) (q : OKg g (RV g) w H E Q (joinD s d h)) :
    ∃ a p, ∃ ys : List Str, V.str s = .str a ∧ [y] = [.ref p] ∧ (SqL X.K H p (ys.map V.str) ∨ SqT X.K H p (ys.map V.str)) ∧ (ys.map (·.length)).sum + ys.length * a.length ≤ 16777216 ∧ Q (.str (Txt.join a ys)) H := by
  unfold joinD at q
  split at q
  · rename_i e1
    split at q
    · rename_i e2
      split at q
      · rename_i hz
        obtain ⟨p, vs, rfl, hq, t⟩ := asS_ok (K := X.K) e1 hr rv
        have e3 := strsOf_eq e2
        subst e3
        have e4 := t.toStrs
        subst e4
        exact ⟨_, _, _, rfl, rfl, hq, of_decide_eq_true hz, q.keep hr (.str _)⟩
      · exact q.elim
    · exact q.elim
  · exact q.elim
theorem split_r {w : Wd} {H : Hp} {h : Hh} {s : Str} {d : D} {y : V} {Q : VK} (hr : HR g w h H) (rv : RV g w H d y) (q : OKg g (RV g) w H E Q (splitD s d h)) :
    ∃ a b, V.str s = .str a ∧ [y] = [.str b] ∧ (b.length == 0) = false ∧ a.length + 2 ≤ sizeLine ∧ rNewStrs (Txt.split a b) H Q := by
  unfold splitD at q
  split at q
  · cases rv
    split at q
    · rename_i hz
      simp only [Bool.and_eq_true, decide_eq_true_eq, Bool.not_eq_true'] at hz
      exact ⟨_, _, rfl, rfl, hz.1, hz.2, q.lst hr (RVs.strs _)⟩
    · exact q.elim
  · exact q.elim
end
end Bx
namespace Bx
open PySem PySem.Spec PyProof.Rows L2
section
variable {g : Gx} {W : WX} {X : Cx} {a b c elt tg iter : Expr} {pos p p2 : Pos} {fa fb fc e : Fn} {es ifs : List Expr} {fs fi : Fl}
theorem XO.blk (xo : XO g X) {s : Shared} {H : Hp} {scope : Scope} {ce : Env} {fp : List Addr} : XO g (X.blk s H scope ce fp) := ⟨xo.K, xo.mg, xo.calm, xo.nd, xo.un, xo.gd⟩
theorem chain_rd {f f' : D → D → Hh → Res D} {σ : L2.St} {H : Hp} {Q : VK} (hq : tI g W (xChain f f' fa fb fc) σ H Q) : tChain (rD g (wAt W σ) f) (rD g (wAt W σ) f') (tI g W fa) (tI g W fb) (tI g W fc) σ H Q := by
  obtain ⟨w, ρ, h, sr, o⟩ := hq
  exact tI_go sr o fun V H1 w1 a h1 l sr1 rv o1 => tI_go sr1 o1 fun V2 H2 w2 b h2 l2 sr2 rv2 o2 => ⟨w2, h2, a, b, sr2.hr, rv.mono l2, rv2,
    (OKg.bind o2).imp fun Z H3 ⟨w3, z, h3, l3, hr3, rz, o3⟩ => by
      obtain ⟨k, rfl, o4⟩ := isB_go o3 rz
      refine ⟨k, rfl, ?_⟩
      cases k with
      | true => exact tI_go (sr2.step l3 hr3) o4 fun V4 H4 w4 u h4 l4 sr4 rv4 o5 => ⟨w4, h4, b, u, sr4.hr, (rv2.mono l3).mono l4, rv4, o5⟩
      | false => exact o4.keep hr3 (.bl false)⟩
theorem w_chain {op op' : CmpOp} {f f' : D → D → Hh → Res D} (ho : ∀ E, OpR X (compareOp op) (rD g E f)) (ho' : ∀ E, OpR X (compareOp op') (rD g E f')) (ha : PE X a (tI g W fa)) (hb : PE X b (tI g W fb)) (hc : PE X c (tI g W fc)) (hm : lastMarks [op, op'] [b, c] = false := by rfl) :
    PE X (.Compare a [op, op'] [b, c] pos) (tI g W (xChain f f' fa fb fc)) := ⟨fun pins s σ H Q I h => (pe_chain (ho (wAt W σ)) (ho' (wAt W σ)) ha hb hc hm).run pins s σ H Q I (chain_rd h)⟩
theorem w_tchain {op op' : CmpOp} {f f' : D → D → Hh → Res D} (ho : ∀ E, OpR X (compareOp op) (rD g E f)) (ho' : ∀ E, OpR X (compareOp op') (rD g E f')) (ha : PE X a (tI g W fa)) (hb : PE X b (tI g W fb)) (hc : PE X c (tI g W fc)) (hm : lastMarks [op, op'] [b, c] = false := by rfl) :
    PT X (.Compare a [op, op'] [b, c] pos) (tT g W (yV (xChain f f' fa fb fc))) :=
  q_tchain (f := f) (f' := f') ha hb hc (fun σ => pt_chain (ho (wAt W σ)) (ho' (wAt W σ)) ha hb hc hm) fun σ H Q hq => chain_rd hq
/-- a type's name as a value -/
theorem w_ty {x : Str} {n : String} (xo : XO g X) (hg : Gl X x) (hm : g.mg x = none) (hv : bootBuiltins x = some (.type n) := by decide +kernel) (hn : x ≠ "__name__" := by decide +kernel) (hd : (x == ("__debug__" : Str)) = false := by decide +kernel) : PE X (.Name x pos) (tI g W (xC (.val (.ty n)))) :=
  q_c (pe_bltn (v := .ty n) hg (by rw [xo.mg]; exact hm) hv rfl hn hd) fun _ _ => .val _
/-- a text of the module -/
theorem w_gstr {x z : Str} (xo : XO g X) (hg : Gl X x) (hm : ∃ t, g.mg x = some (.str z t)) (hd : (x == ("__debug__" : Str)) = false := by decide +kernel) : PE X (.Name x pos) (tI g W (xC (.str z))) := by
  obtain ⟨t, hm⟩ := hm
  exact q_c (pe_glob (v := .str z) hg (by rw [xo.mg]; exact hm) ⟨t, rfl⟩ hd) fun _ _ => .str z
theorem w_bi (xo : XO g X) (bi : Bi) {x : Str} (nb : ∀ b : Bi, g.mg (biN b) = none) (hg : Gl X x) (hx : x = biN bi) (ha : PA X (a :: es) (tL g W fs)) (he : starEach (a :: es) X.env = (false, eval a X.env) :: starEach es X.env := by rfl)
    (hpl : (backTo pos (starEach es X.env)).any (·.1) = false := by rfl) : PE X (.Call (.Name x p) (a :: es) [] pos) (tI g W (xBi bi fs)) := q_bi xo bi hg (by rw [xo.mg, hx]; exact nb bi) hx ha he hpl
theorem w_rng1 (xo : XO g X) (hg : Gl X "range") (hm : g.mg "range" = none) (ha : PA X [a] (tL g W fs)) (hs : starEach [a] X.env = [(false, eval a X.env)] := by rfl) : PI X tg (.Call (.Name "range" p) [a] [] pos) (tIt g W (iR1 fs)) :=
  q_rng1 (fun h => pi_range1 hg (by rw [xo.mg]; exact hm) h hs) ha
theorem w_rng2 (xo : XO g X) (hg : Gl X "range") (hm : g.mg "range" = none) (ha : PA X [a, b] (tL g W fs)) (hs : starEach [a, b] X.env = [(false, eval a X.env), (false, eval b X.env)] := by rfl) (hs2 : starEach [b] X.env = [(false, eval b X.env)] := by rfl) : PI X tg (.Call (.Name "range" p) [a, b] [] pos) (tIt g W (iR2 fs)) :=
  q_rng2 (fun h => pi_range2 hg (by rw [xo.mg]; exact hm) h hs hs2) ha
theorem w_for {is : List Nat} {t : Fg} {zb : Fs} {body : List Stmt} (xo : XO g X) (hp : PassesOwn (model X.prog X.w) X.A X.env X.xe) (hi : PI X tg iter (tIt g W fi)) (hg : PG X tg (tG g is t)) (hb : PSs X body (tS g W zb)) (hs : ∀ x, foldedSetIterable iter X.env x = pure x := by intro _; rfl) : PS X (.For tg iter body [] pos) (tS g W (zFor fi t zb)) :=
  q_for (fun h1 h2 h3 => ps_for hp xo.calm h1 h2 h3 hs) hi hg hb
theorem w_set {i : Nat} {x : Str} (xo : XO g X) (hi : X.N[i]? = some x) (hx : Loc X.env.scope x) (ha : PE X a (tI g W fa)) (hs : swapsWith a (some (.Name x p2)) pos.line X.env = pure false := by rfl) (hf : X.fn x = true ∨ X.env.scope.names.lookup x = some .local := by first | exact .inl rfl | exact .inr rfl) : PS X (.Assign [.Name x p2] a pos) (tS g W (zSet i fa)) :=
  q_set (ps_set xo.nd hi hx ha hs hf) fun _ _ _ h => h
theorem w_expr (ha : PE X a (tI g W fa)) (hs : swapsWith a none pos.line X.env = pure false := by rfl) : PS X (.Expr a pos) (tS g W (zExpr fa)) := q_expr (fun h => ps_expr h hs) ha
def lcF : List D → Hh → Res D := fun es h2 => .ok (.lst es) h2
def lcN : List D → Hh → Res D := fun es h2 => .ok (.ref h2.length) (h2 ++ [.lst es])
theorem w_lc {f : List D → Hh → Res D} (hf : ∀ E, Hands g E f) {is : List Nat} {own : List (Str × Nat)} {t : Fg} {c : Ft} {scope : Scope} (xo : XO g X) (ok : BlkOk X.N X.env.scope scope own) (hi : PI X tg iter (tIt g W fi))
    (hg : ∀ (s : Shared) (H : Hp) (C : Addr) (cl : List (Str × Addr)) (fp : List Addr), PG (X.blk s H scope (compEnvC scope cl C X.env) fp) tg (tG g is t)) (ht : ∀ (s : Shared) (H : Hp) (C : Addr) (cl : List (Str × Addr)) (fp : List Addr), PTs (X.blk s H scope (compEnvC scope cl C X.env) fp) ifs (tT g EF c))
    (he : ∀ (s : Shared) (H : Hp) (C : Addr) (cl : List (Str × Addr)) (fp : List Addr), PE (X.blk s H scope (compEnvC scope cl C X.env) fp) elt (tI g EF e)) (hsub : ∀ i ∈ is, i ∈ own.map (·.2) := by decide) (hs : ∀ x, foldedSetIterable iter X.env x = pure x := by intro _; rfl) :
    PE X (.ListComp elt [⟨tg, iter, ifs, 0⟩] scope pos) (tI g W (xLcG f fi (own.map (·.2)) t c e)) :=
  ⟨fun pins s σ H Q I h => (pe_lc xo.calm xo.nd hi ok hg ht he hs).run pins s σ H Q I (lc_rd hf hsub h)⟩
theorem w_setLc {f : List D → Hh → Res D} (hf : ∀ E, Hands g E f) {i : Nat} {x : Str} {is : List Nat} {own : List (Str × Nat)} {t : Fg} {c : Ft} {scope : Scope} (xo : XO g X) (hy : X.N[i]? = some x) (hyl : X.env.scope.names.lookup x = some .local)
    (hsw : swapsWith (.ListComp elt [⟨tg, iter, ifs, 0⟩] scope p) (some (.Name x p2)) pos.line X.env = pure true) (ok : BlkOk X.N X.env.scope scope own) (hi : PI X tg iter (tIt g W fi))
    (hg : ∀ (s : Shared) (H : Hp) (C : Addr) (cl : List (Str × Addr)) (fp : List Addr), PG (X.blk s H scope (compEnvC scope cl C X.env) fp) tg (tG g is t)) (ht : ∀ (s : Shared) (H : Hp) (C : Addr) (cl : List (Str × Addr)) (fp : List Addr), PTs (X.blk s H scope (compEnvC scope cl C X.env) fp) ifs (tT g EF c))
    (he : ∀ (s : Shared) (H : Hp) (C : Addr) (cl : List (Str × Addr)) (fp : List Addr), PE (X.blk s H scope (compEnvC scope cl C X.env) fp) elt (tI g EF e)) (hsub : ∀ i ∈ is, i ∈ own.map (·.2) := by decide) (hs : ∀ x, foldedSetIterable iter X.env x = pure x := by intro _; rfl) :
    PS X (.Assign [.Name x p2] (.ListComp elt [⟨tg, iter, ifs, 0⟩] scope p) pos) (tS g W (zSet i (xLcG f fi (own.map (·.2)) t c e))) :=
  q_set (ps_setLc xo.calm xo.nd hy hyl hsw hi ok hg ht he hs) fun _ _ _ h => lc_rd hf hsub h
theorem w_setix (hv : PE X c (tI g W fc)) (ho : PE X a (tI g W fa)) (hi : PE X b (tI g W fb)) (ha : ∀ v, assign (.Subscript a b p2) X.env v = (do
      let ov ← holding [v] (eval a X.env)
      let iv ← holding [v, ov] (eval b X.env)
      standAt p2
      holding [v, ov, iv] (setItem ov iv v)
      release [v, ov, iv] []) := by intro _; rfl)
    (hs : swapsWithSole [.Subscript a b p2] c pos.line X.env = pure false := by rfl) (hw : swappedStores [.Subscript a b p2] c X.env = pure none := by rfl) (h1 : (assignEach [.Subscript a b p2] X.env).map (·.2) = [assign (.Subscript a b p2) X.env] := by rfl) :
    PS X (.Assign [.Subscript a b p2] c pos) (tS g W (zSetIx fa fb fc)) := q_setix (ps_asg hv (pg_sub ho hi set_ok ha) hs hw h1)
end
section
variable {g : Gx} {W : WX} {X : Cx} {a b c : Expr} {fa fb fc : Fn} {fs : Fl} {pos p2 : Pos}
theorem w_augix (ho : PE X a (tI g W fa)) (hi : PE X b (tI g W fb)) (hv : PE X c (tI g W fc)) (ha : ∀ ov iv new, augStore b ov iv new = (do holding [new, ov, iv] (setItem ov iv new); release [new, ov, iv] []; pure .next) := by intros; rfl) :
    PS X (.AugAssign (.Subscript a b p2) .Add c pos) (tS g W (zAugIx iaddD fa fb fc)) := q_augix fun E => ps_augS ho hi get_ok hv ipadd_ok set_ok ha
/-- a, b = x, y: two names that are plain locals -/
theorem w_par {i j : Nat} {x y : Str} {px py pt pt2 : Pos} {kt k2 : Nat} (xo : XO g X) (hi : X.N[i]? = some x) (hj : X.N[j]? = some y) (hij : i ≠ j) (hx : X.env.scope.names.lookup x = some .local) (hy : X.env.scope.names.lookup y = some .local) (ha : PA X [a, b] (tL g W fs))
    (hw : swappedStores [.Tuple [.Name x px, .Name y py] kt pt] (.Tuple [a, b] k2 pt2) X.env = pure (some [x, y])) (hs : swapsWithSole [.Tuple [.Name x px, .Name y py] kt pt] (.Tuple [a, b] k2 pt2) pos.line X.env = pure false := by rfl) :
    PS X (.Assign [.Tuple [.Name x px, .Name y py] kt pt] (.Tuple [a, b] k2 pt2) pos) (tS g W (zPar i j fs)) := q_par (ps_par xo.calm xo.nd hi hj hij hx hy ha hw hs)
end
end Bx
namespace Bx
open PySem PySem.Spec PyProof.Rows L2
theorem keyOf_all {P : Params} {z : Str} : ∀ {l : List DictEntry} {ks : List Str}, l.map He.keyOf = He.keysIn P ks → z ∉ ks → l.find? (·.key.isStr z) = none ∧ l.any (·.refKey) = false
  | [], _, _, _ => ⟨rfl, rfl⟩
  | e :: r, [], h, _ => by cases h
  | e :: r, k :: ks, h, hz => by
    have h1 : He.keyOf e :: r.map He.keyOf = some (k, PyData.keyHash P k) :: He.keysIn P ks := h
    injection h1 with h2 h3
    have hz1 : z ≠ k := fun q => hz (by rw [q]; exact List.mem_cons_self ..)
    have hz2 : z ∉ ks := fun q => hz (List.mem_cons_of_mem _ q)
    obtain ⟨i1, i2⟩ := keyOf_all h3 hz2
    unfold He.keyOf at h2
    split at h2
    · rename_i x t q
      have h4 := Option.some.inj h2
      obtain ⟨h5, h6⟩ := Prod.mk.inj h4
      subst h5
      refine ⟨?_, ?_⟩
      · rw [List.find?_cons_of_neg, i1]
        rw [q]
        simp only [Value.isStr, Bool.not_eq_true, beq_eq_false_iff_ne]
        exact fun e => hz1 e.symm
      · rw [List.any_cons, i2, DictEntry.refKey, q]
        rfl
    · cases h2
theorem nsIn_no {K : PySem.W.Frag} {P : Params} {a : Addr} {ks : List Str} {z : Str} (h : He.dicW K a = some (He.keysIn P ks)) (hz : z ∉ ks) : PySem.W.nsIn K a z = some none := by
  unfold He.dicW at h
  unfold PySem.W.nsIn
  split at h
  · rename_i c es n sl q
    rw [q]
    split at h
    · have h1 := Option.some.inj h
      obtain ⟨i1, i2⟩ := keyOf_all h1 hz
      simp only [i1, i2]
      rfl
    · cases h
  · cases h
/-- one row a key -/
def KRow (g : Gx) (d : Addr) (p : Str × D) : Prop := ∃ u v, PySem.W.nsIn g.K d p.1 = some (some u) ∧ RelV v u ∧ ∀ w H, RV g w H p.2 v
theorem krow_int {g : Gx} {d : Addr} {x : Str} {i : Int} {t : Tok} (h : PySem.W.nsIn g.K d x = some (some (.int i t))) : KRow g d (x, .int i) := ⟨_, .int i, h, ⟨t, rfl⟩, fun _ _ => .int i⟩
theorem lookup_in {wd : List (Str × D)} {z : Str} {g : Gx} {d : Addr} : (∀ p ∈ wd, KRow g d p) → (wd.lookup z = none ∧ z ∉ wd.map (·.1)) ∨ ∃ dd u v, wd.lookup z = some dd ∧ PySem.W.nsIn g.K d z = some (some u) ∧ RelV v u ∧ ∀ w H, RV g w H dd v := by
  induction wd with
  | nil => exact fun _ => .inl ⟨rfl, by simp⟩
  | cons p r ih =>
    intro h
    by_cases e : z = p.1
    · obtain ⟨u, v, h1, h2, h3⟩ := h p (List.mem_cons_self ..)
      obtain ⟨x, dd⟩ := p
      cases e
      exact .inr ⟨dd, u, v, List.lookup_cons_self, h1, h2, h3⟩
    · obtain ⟨x, dd⟩ := p
      have e2 : (z == x) = false := by simpa using e
      rcases ih fun p hp => h p (List.mem_cons_of_mem _ hp) with ⟨i1, i2⟩ | ⟨d2, u, v, i1, i2⟩
      · refine .inl ⟨?_, ?_⟩
        · simp only [List.lookup, e2, i1]
        · simp only [List.map_cons, List.mem_cons, not_or]
          exact ⟨e, i2⟩
      · refine .inr ⟨d2, u, v, ?_, i2⟩
        simp only [List.lookup, e2, i1]
theorem kw_of {g : Gx} {wo : World} {x : Str} {d : Addr} {wd : List (Str × D)} (hm : g.mg x = some (.ref d)) (hd : He.dicW g.K d = some (He.keysIn wo.params (wd.map (·.1)))) (hr : ∀ p ∈ wd, KRow g d p) : KW g wo x wd := by
  obtain ⟨es, n, kd⟩ := He.dicW_ok hd
  refine ⟨d, es, n, hm, kd, fun z => ?_⟩
  rcases lookup_in (z := z) hr with ⟨h1, h2⟩ | h
  · exact .inl ⟨h1, nsIn_no hd h2⟩
  · exact .inr h
theorem dicW_at {K : PySem.W.Frag} {P : Params} {d : Addr} {es : Array DictEntry} {n : Nat} {ks : List Str} (h : K.lookup d = some ⟨.type "dict", none, .dict es n, #[]⟩) (he : es.toList.map He.keyOf = He.keysIn P ks) (hl : (d == sysModules) = false) : He.dicW K d = some (He.keysIn P ks) := by
  unfold He.dicW
  rw [h, ← he]
  simp only [hl]
  rfl
end Bx
namespace Bx
open PySem PySem.Spec PyProof.Rows L2
section
variable {α β : Type} {a b c : Fn} {t u : Ft} {fs : Fl} {ρ ρ1 : Rho} {h h1 : Hh} {za zb : Fs} {d : D}
@[simp] theorem bind_ok (x : α) (h : Hh) (f : α → Hh → Res β) : (Res.ok x h).bind f = f x h := id rfl
@[simp] theorem of_ok (x : α) (h : Hh) (f : α → Hh → SRes) : SRes.of ρ (Res.ok x h) f = f x h := id rfl
@[simp] theorem xV_at {i : Nat} : xV i ρ h = (match ρ[i]? with | some (some d) => .ok d h | _ => .bad) := id rfl
@[simp] theorem xC_at : xC d ρ h = .ok d h := id rfl
@[simp] theorem xBin_at {op : D → D → Hh → Res D} : xBin op a b ρ h = (a ρ h).bind fun x h1 => (b ρ h1).bind fun y h2 => op x y h2 := id rfl
@[simp] theorem xUn_at {op : D → Hh → Res D} : xUn op a ρ h = (a ρ h).bind fun x h1 => op x h1 := id rfl
@[simp] theorem xNil_at : xNil ρ h = .ok [] h := id rfl
@[simp] theorem xCons_at : xCons a fs ρ h = (a ρ h).bind fun x h1 => (fs ρ h1).bind fun xs h2 => .ok (x :: xs) h2 := id rfl
@[simp] theorem xTup_at : xTup fs ρ h = (fs ρ h).bind fun ds h1 => if sz ds.length then .ok (.tup ds) h1 else .bad := id rfl
@[simp] theorem xLst_at : xLst fs ρ h = (fs ρ h).bind fun ds h1 => if sz ds.length then .ok (.lst ds) h1 else .bad := id rfl
@[simp] theorem xNlst_at : xNlst fs ρ h = (fs ρ h).bind fun ds h1 => if sz ds.length then .ok (.ref h1.length) (h1 ++ [.lst ds]) else .bad := id rfl
@[simp] theorem xDct0_at : xDct0 ρ h = .ok (.dct []) h := id rfl
@[simp] theorem isB_at {k : Bool} : isB (.bl k) h = .ok k h := id rfl
@[simp] theorem xAnd_at : xAnd a b ρ h = (a ρ h).bind fun x h1 => (isB x h1).bind fun c h2 => if c then b ρ h2 else .ok (.bl false) h2 := id rfl
@[simp] theorem xOr_at : xOr a b ρ h = (a ρ h).bind fun x h1 => (isB x h1).bind fun c h2 => if c then .ok (.bl true) h2 else b ρ h2 := id rfl
@[simp] theorem xNot_at : xNot a ρ h = (a ρ h).bind fun x h1 => (isB x h1).bind fun c h2 => .ok (.bl (!c)) h2 := id rfl
@[simp] theorem xIfe_at : xIfe t a b ρ h = (t ρ h).bind fun c h1 => if c then a ρ h1 else b ρ h1 := id rfl
@[simp] theorem xIdx_at : xIdx a b ρ h = (a ρ h).bind fun x h1 => (b ρ h1).bind fun y h2 => idxD x y h2 := id rfl
@[simp] theorem xNo_at : xNo ρ h = .ok none h := id rfl
@[simp] theorem xSome_at : xSome a ρ h = (a ρ h).bind fun x h1 => isI x h1 := id rfl
@[simp] theorem isI_at {i : Int} : isI (.int i) h = .ok (some i) h := id rfl
@[simp] theorem xSlc_at {lo hi : Fo} : xSlc a lo hi ρ h = (a ρ h).bind fun x h1 => (lo ρ h1).bind fun l h2 => (hi ρ h2).bind fun u h3 => slcD x l u h3 := id rfl
@[simp] theorem xBi_at {bi : Bi} : xBi bi fs ρ h = (fs ρ h).bind fun ds h1 => biS bi ds h1 := id rfl
@[simp] theorem xCall_at {n : Nat} {cl : List D → Hh → Res D} : xCall n cl fs ρ h = (fs ρ h).bind fun ds h1 => if ds.length = n then cl ds h1 else .bad := id rfl
@[simp] theorem yV_at : yV a ρ h = (a ρ h).bind fun x h1 => isB x h1 := id rfl
@[simp] theorem yAnd_at : yAnd t u ρ h = (t ρ h).bind fun c h1 => if c then u ρ h1 else .ok false h1 := id rfl
@[simp] theorem yOr_at : yOr t u ρ h = (t ρ h).bind fun c h1 => if c then .ok true h1 else u ρ h1 := id rfl
@[simp] theorem yNot_at : yNot t ρ h = (t ρ h).bind fun c h1 => .ok (!c) h1 := id rfl
@[simp] theorem yYes_at : yYes ρ h = .ok true h := id rfl
@[simp] theorem zNext_at : zNext ρ h = .nx ρ h := id rfl
@[simp] theorem zSet_at {i : Nat} : zSet i a ρ h = SRes.of ρ (a ρ h) fun d h1 => .nx (ρ.set i (some d)) h1 := id rfl
@[simp] theorem zIf_at : zIf t za zb ρ h = SRes.of ρ (t ρ h) fun c h1 => if c then za ρ h1 else zb ρ h1 := id rfl
@[simp] theorem zRet_at : zRet a ρ h = SRes.of ρ (a ρ h) fun d h1 => .rt d h1 := id rfl
@[simp] theorem zExpr_at : zExpr a ρ h = SRes.of ρ (a ρ h) fun _ h1 => .nx ρ h1 := id rfl
@[simp] theorem zSetIx_at : zSetIx a b c ρ h = SRes.of ρ (c ρ h) fun v h1 => SRes.of ρ (a ρ h1) fun o h2 => SRes.of ρ (b ρ h2) fun i h3 => match setAt o i v h3 with | some h4 => .nx ρ h4 | none => .bad := id rfl
@[simp] theorem zAugIx_at {op : D → D → Hh → Res D} : zAugIx op a b c ρ h = SRes.of ρ (a ρ h) fun o h1 => SRes.of ρ (b ρ h1) fun i h2 => SRes.of ρ (lgetD o i h2) fun x h3 => SRes.of ρ (c ρ h3) fun y h4 => SRes.of ρ (op x y h4) fun z h5 => match setAt o i z h5 with | some h6 => .nx ρ h6 | none => .bad := id rfl
@[simp] theorem zSeq_nx {ρ1 : Rho} {h1 : Hh} : (match (SRes.nx ρ1 h1 : SRes) with | .nx ρ h => zb ρ h | r => r) = zb ρ1 h1 := id rfl
theorem zSeq_at : zSeq za zb ρ h = (match za ρ h with | .nx ρ h => zb ρ h | r => r) := id rfl
@[simp] theorem zFor_at {it : Fl} {tg : Fg} : zFor it tg za ρ h = SRes.of ρ (it ρ h) fun ds h1 => loopS tg za ds ρ h1 := id rfl
@[simp] theorem gN_at {i : Nat} : gN i d ρ = some (ρ.set i (some d)) := id rfl
theorem seq_nx (e : za ρ h = .nx ρ1 h1) : zSeq za zb ρ h = zb ρ1 h1 := by rw [zSeq_at, e]
theorem seq_rt (e : za ρ h = .rt d h1) : zSeq za zb ρ h = .rt d h1 := by rw [zSeq_at, e]
@[simp] theorem endB_rt : endB (.rt d h) = .ok d h := id rfl
@[simp] theorem endB_nx : endB (.nx ρ h) = .ok .non h := id rfl
@[simp] theorem endB_exc {x : Str} {ds : List D} : endB (.exc x ds ρ h) = .exc x ds h := id rfl
@[simp] theorem of_exc (x : Str) (ds : List D) (h : Hh) (f : α → Hh → SRes) : SRes.of ρ (Res.exc x ds h) f = .exc x ds ρ h := id rfl
theorem seq_exc {x : Str} {ds : List D} (e : za ρ h = .exc x ds ρ1 h1) : zSeq za zb ρ h = .exc x ds ρ1 h1 := by rw [zSeq_at, e]
@[simp] theorem eq_int {i j : Int} : eqD (.int i) (.int j) h = .ok (.bl (decide (i = j))) h := by
  simp [eqD, difL, asL, toD, toP, dOk, PyData.plain, PyData.depth, PyData.eqv]
  rfl
@[simp] theorem ne_int {i j : Int} : neD (.int i) (.int j) h = .ok (.bl (!decide (i = j))) h := by
  simp [neD, difL, asL, toD, toP, dOk, PyData.plain, PyData.depth, PyData.eqv]
  rfl
@[simp] theorem eq_str {i j : Str} : eqD (.str i) (.str j) h = .ok (.bl (decide (i = j))) h := by
  simp [eqD, difL, asL, toD, toP, dOk, PyData.plain, PyData.depth, PyData.eqv]
  by_cases e : i = j <;> simp [e]
@[simp] theorem ne_str {i j : Str} : neD (.str i) (.str j) h = .ok (.bl (!decide (i = j))) h := by
  simp [neD, difL, asL, toD, toP, dOk, PyData.plain, PyData.depth, PyData.eqv]
  by_cases e : i = j <;> simp [e]
@[simp] theorem lt_int {i j : Int} : ltD (.int i) (.int j) h = .ok (.bl (decide (i < j))) h := by
  simp [ltD, cmpD, toD, toP, PySem.W.alike, isNone, PyData.depth, PySem.W.dataLt_int]
@[simp] theorem le_int {i j : Int} : leD (.int i) (.int j) h = .ok (.bl (decide (i ≤ j))) h := by
  simp [leD, cmpD, toD, toP, PySem.W.alike, isNone, PyData.depth, PySem.W.dataLt_int]
  by_cases e : j < i
  · have e2 : ¬ i ≤ j := by omega
    simp [e, e2]
  · have e2 : i ≤ j := by omega
    simp [e, e2]
@[simp] theorem gt_int {i j : Int} : gtD (.int i) (.int j) h = .ok (.bl (decide (i > j))) h := by
  simp [gtD, cmpD, toD, toP, PySem.W.alike, isNone, PyData.depth, PySem.W.dataLt_int]
@[simp] theorem ge_int {i j : Int} : geD (.int i) (.int j) h = .ok (.bl (decide (i ≥ j))) h := by
  simp [geD, cmpD, toD, toP, PySem.W.alike, isNone, PyData.depth, PySem.W.dataLt_int]
  by_cases e : i < j
  · have e2 : ¬ j ≤ i := by omega
    simp [e, e2]
  · have e2 : j ≤ i := by omega
    simp [e, e2]
@[simp] theorem add_int {i j : Int} : addD (.int i) (.int j) h = .ok (.int (i + j)) h := id rfl
@[simp] theorem sub_int {i j : Int} : subD (.int i) (.int j) h = .ok (.int (i - j)) h := id rfl
@[simp] theorem iadd_int {i j : Int} : iaddD (.int i) (.int j) h = .ok (.int (i + j)) h := id rfl
theorem mul_int {i j : Int} (e : small64 i = true ∨ small64 j = true) : mulD (.int i) (.int j) h = .ok (.int (i * j)) h := by
  rcases e with e | e <;> simp [mulD, e]
theorem mod_int {i j : Int} (e : 0 < j) : modD (.int i) (.int j) h = .ok (.int (i % j)) h := by simp [modD, e]
theorem fdiv_int {i j : Int} (e : 0 < j) (e2 : j < 1073741824) : fdivD (.int i) (.int j) h = .ok (.int (i / j)) h := by simp [fdivD, e, e2]
@[simp] theorem int_int {i : Int} : biS .int [.int i] h = .ok (.int i) h := id rfl
@[simp] theorem abs_int {i : Int} : biS .abs [.int i] h = .ok (.int (if i < 0 then -i else i)) h := id rfl
end
theorem call_at {T : Tab} {k : Nat} {f : Str} {fd : Fd} {ds : List D} {h : Hh} (e : T f = some fd) (hl : ds.length = fd.np) : callN T (k + 1) f ds h = endC h (endB (fd.body (callN T k) (startR fd.nl ds) h)) := by
  simp only [callN, e, hl, if_true]
theorem call_rt {T : Tab} {k : Nat} {f : Str} {fd : Fd} {ds : List D} {h h' : Hh} {d : D} (e : T f = some fd) (hl : ds.length = fd.np) (b : fd.body (callN T k) (startR fd.nl ds) h = .rt d h') (len : h'.length = h.length) : callN T (k + 1) f ds h = .ok d h' := by
  rw [call_at e hl, b, endB_rt, endC_len len]
end Bx
namespace Bx
open PySem PySem.Spec PyProof.Rows L2
def bTake (cl : Str → List D → Hh → Res D) : Fs :=
  zSeq (zIf (yV (xBin eqD (xIdx (xV 0) (xC (.int 0))) (xC (.int 0)))) (zSeq (zSet 4 (xC (.int 0)))
    (zSeq (zIf (yV (xBin ltD (xIdx (xV 0) (xC (.int 2))) (xBi .len (xCons (xIdx (xV 0) (xC (.int 3))) (xNil))))) (zSet 4 (xIdx (xIdx (xV 0) (xC (.int 3))) (xIdx (xV 0) (xC (.int 2))))) (zNext))
    (zSeq (zAugIx iaddD (xV 0) (xC (.int 2)) (xC (.int 1)))
    (zSeq (zIf (yV (xBin geD (xV 4) (xC (.int 1000000000000000000)))) (zSetIx (xV 0) (xC (.int 0)) (xV 4)) (zNext))
    (zSeq (zSet 5 (xBin addD (xBin addD (xBin mulD (xIdx (xV 0) (xC (.int 1))) (xC (.int 48271))) (xBin modD (xBi .int (xCons (xV 4) (xNil))) (xC (.int 2147483647)))) (xBin mulD (xC (.int 7919)) (xIdx (xV 0) (xC (.int 2))))))
    (zSetIx (xV 0) (xC (.int 1)) (xBin modD (xBi .int (xCons (xV 5) (xNil))) (xC (.int 2147483647))))))))) (zNext))
    (zSeq (zIf (yV (xBin gtD (xIdx (xV 0) (xC (.int 0))) (xC (.int 0)))) (zSeq (zSet 6 (xBin modD (xBi .int (xCons (xIdx (xV 0) (xC (.int 0))) (xNil))) (xV 1)))
    (zSeq (zSetIx (xV 0) (xC (.int 0)) (xBin fdivD (xIdx (xV 0) (xC (.int 0))) (xV 1)))
    (zRet (xV 6)))) (zNext))
    (zSeq (zSet 2 (xBin modD (xBi .int (xCons (xBin mulD (xBin addD (xIdx (xV 0) (xC (.int 1))) (xC (.int 1))) (xC (.int 39373))) (xNil))) (xC (.int 1000000007))))
    (zSeq (zSet 3 (xBin modD (xBi .int (xCons (xBin mulD (xBin modD (xBi .int (xCons (xBin mulD (xV 2) (xV 2)) (xNil))) (xC (.int 998244353))) (xC (.int 30011))) (xNil))) (xC (.int 998244353))))
    (zSeq (zIf (yV (xBin gtD (xV 1) (xC (.int 1000000)))) (zRet (xBin modD (xBi .int (xCons (xBin addD (xBin mulD (xV 3) (xC (.int 1000000007))) (xV 2)) (xNil))) (xV 1))) (zNext))
    (zRet (xBin modD (xBi .int (xCons (xBin fdivD (xV 3) (xC (.int 7))) (xNil))) (xV 1)))))))

/-- the bag -/
structure Bg (o : O) : Prop where
  ex : ∃ (a b c : Int) (cells : List Int), o = .lst [.int a, .int b, .int c, .lst (cells.map .int)] ∧ 0 ≤ a ∧ 0 ≤ b ∧ b < 2147483647 ∧ 0 ≤ c ∧ ∀ x ∈ cells, 0 ≤ x
def bg (a b c : Int) (l : List D) : O := .lst [.int a, .int b, .int c, .lst l]
section
variable {a b c : Int} {l : List D} {r : Hh} {v : D}
@[simp] theorem bg_i0 : idxD (.ref 0) (.int 0) (bg a b c l :: r) = .ok (.int a) (bg a b c l :: r) := rfl
@[simp] theorem bg_i1 : idxD (.ref 0) (.int 1) (bg a b c l :: r) = .ok (.int b) (bg a b c l :: r) := rfl
@[simp] theorem bg_i2 : idxD (.ref 0) (.int 2) (bg a b c l :: r) = .ok (.int c) (bg a b c l :: r) := rfl
@[simp] theorem bg_i3 : idxD (.ref 0) (.int 3) (bg a b c l :: r) = .ok (.lst l) (bg a b c l :: r) := rfl
@[simp] theorem bg_g2 : lgetD (.ref 0) (.int 2) (bg a b c l :: r) = .ok (.int c) (bg a b c l :: r) := rfl
@[simp] theorem bg_s0 {x : Int} : setAt (.ref 0) (.int 0) (.int x) (bg a b c l :: r) = some (bg x b c l :: r) := rfl
@[simp] theorem bg_s1 {x : Int} : setAt (.ref 0) (.int 1) (.int x) (bg a b c l :: r) = some (bg a x c l :: r) := rfl
@[simp] theorem bg_s2 {x : Int} : setAt (.ref 0) (.int 2) (.int x) (bg a b c l :: r) = some (bg a b x l :: r) := rfl
@[simp] theorem len_lst {h : Hh} : biS .len [.lst l] h = .ok (.int l.length) h := rfl
end
theorem atI_some {α : Type} {xs : List α} {i : Int} (h0 : 0 ≤ i) (h1 : i < xs.length) : ∃ x, x ∈ xs ∧ atI xs i = some x := by
  obtain ⟨n, rfl⟩ := Int.eq_ofNat_of_zero_le h0
  have hn : n < xs.length := by omega
  exact ⟨xs[n], List.getElem_mem hn, atI_nat (j := n) (List.getElem?_eq_getElem hn)⟩
/-- the tail of a drawing -/
theorem take_end {a b c m : Int} {l : List D} {r : Hh} {o2 o3 o4 o5 o6 : Option D} (ha : 0 ≤ a) (hb : 0 ≤ b) (hb2 : b < 2147483647) (hm : 0 < m) (hm2 : m < 1073741824) :
    ∃ v a', zSeq (zIf (yV (xBin gtD (xIdx (xV 0) (xC (.int 0))) (xC (.int 0)))) (zSeq (zSet 6 (xBin modD (xBi .int (xCons (xIdx (xV 0) (xC (.int 0))) (xNil))) (xV 1)))
    (zSeq (zSetIx (xV 0) (xC (.int 0)) (xBin fdivD (xIdx (xV 0) (xC (.int 0))) (xV 1)))
    (zRet (xV 6)))) (zNext))
    (zSeq (zSet 2 (xBin modD (xBi .int (xCons (xBin mulD (xBin addD (xIdx (xV 0) (xC (.int 1))) (xC (.int 1))) (xC (.int 39373))) (xNil))) (xC (.int 1000000007))))
    (zSeq (zSet 3 (xBin modD (xBi .int (xCons (xBin mulD (xBin modD (xBi .int (xCons (xBin mulD (xV 2) (xV 2)) (xNil))) (xC (.int 998244353))) (xC (.int 30011))) (xNil))) (xC (.int 998244353))))
    (zSeq (zIf (yV (xBin gtD (xV 1) (xC (.int 1000000)))) (zRet (xBin modD (xBi .int (xCons (xBin addD (xBin mulD (xV 3) (xC (.int 1000000007))) (xV 2)) (xNil))) (xV 1))) (zNext))
    (zRet (xBin modD (xBi .int (xCons (xBin fdivD (xV 3) (xC (.int 7))) (xNil))) (xV 1))))))
    [some (.ref 0), some (.int m), o2, o3, o4, o5, o6] (bg a b c l :: r) = .rt (.int v) (bg a' b c l :: r) ∧ 0 ≤ a' ∧ 0 ≤ v ∧ v < m := by
  by_cases h : a > 0
  · refine ⟨a % m, a / m, ?_, Int.ediv_nonneg ha (by omega), Int.emod_nonneg _ (by omega), Int.emod_lt_of_pos _ hm⟩
    rw [zSeq_at]
    simp [h, zSeq_at, mod_int hm, fdiv_int hm hm2]
  · have h2 : ¬ 0 < a := h
    have k1 : (0 : Int) < 1000000007 := by decide
    have k2 : (0 : Int) < 998244353 := by decide
    have k3 : small64 39373 = true := by decide
    have k4 : small64 30011 = true := by decide
    have k6 : small64 1000000007 = true := by decide
    have q1 := Int.emod_nonneg ((b + 1) * 39373) (show (1000000007 : Int) ≠ 0 by decide)
    have q2 := Int.emod_lt_of_pos ((b + 1) * 39373) k1
    have k5 : small64 ((b + 1) * 39373 % 1000000007) = true := by
      simp only [small64, Bool.and_eq_true, decide_eq_true_eq]
      omega
    by_cases h3 : m > 1000000
    · refine ⟨((b + 1) * 39373 % 1000000007 * ((b + 1) * 39373 % 1000000007) % 998244353 * 30011 % 998244353 * 1000000007 + (b + 1) * 39373 % 1000000007) % m, a, ?_, ha, Int.emod_nonneg _ (by omega), Int.emod_lt_of_pos _ hm⟩
      · rw [zSeq_at]
        simp only [zIf_at, yV_at, xBin_at, xIdx_at, xV_at, xC_at, bind_ok, of_ok, List.getElem?_cons_zero, bg_i0, gt_int, isB_at, decide_eq_false h, Bool.false_eq_true, if_false, zNext_at]
        simp [zSeq_at, h2, mod_int hm, mod_int k1, mod_int k2, mul_int (.inr k3), mul_int (.inr k4), mul_int (.inl k5), mul_int (.inr k6), h3]
    · refine ⟨((b + 1) * 39373 % 1000000007 * ((b + 1) * 39373 % 1000000007) % 998244353 * 30011 % 998244353 / 7) % m, a, ?_, ha, Int.emod_nonneg _ (by omega), Int.emod_lt_of_pos _ hm⟩
      · rw [zSeq_at]
        simp only [zIf_at, yV_at, xBin_at, xIdx_at, xV_at, xC_at, bind_ok, of_ok, List.getElem?_cons_zero, bg_i0, gt_int, isB_at, decide_eq_false h, Bool.false_eq_true, if_false, zNext_at]
        simp [zSeq_at, h2, mod_int hm, mod_int k1, mod_int k2, mul_int (.inr k3), mul_int (.inr k4), mul_int (.inl k5), fdiv_int (show (0:Int) < 7 by decide) (by decide), h3]
theorem take_go {cl : Str → List D → Hh → Res D} {a b c m : Int} {cells : List Int} {r : Hh} (ha : 0 ≤ a) (hb : 0 ≤ b) (hb2 : b < 2147483647) (hc : 0 ≤ c) (hcs : ∀ x ∈ cells, 0 ≤ x) (hm : 0 < m) (hm2 : m < 1073741824) :
    ∃ v a' b' c', bTake cl [some (.ref 0), some (.int m), none, none, none, none, none] (bg a b c (cells.map .int) :: r) = .rt (.int v) (bg a' b' c' (cells.map .int) :: r) ∧ 0 ≤ a' ∧ 0 ≤ b' ∧ b' < 2147483647 ∧ 0 ≤ c' ∧ 0 ≤ v ∧ v < m := by
  by_cases h : a = 0
  · subst h
    have k1 : (0 : Int) < 2147483647 := by decide
    have k2 : small64 48271 = true := by decide
    have k3 : small64 7919 = true := by decide
    have fin : ∀ x : Int, 0 ≤ x → ∃ v a' b' c', bTake cl [some (.ref 0), some (.int m), none, none, none, none, none] (bg 0 b c (cells.map .int) :: r) = .rt (.int v) (bg a' b' c' (cells.map .int) :: r) ∧ 0 ≤ a' ∧ 0 ≤ b' ∧ b' < 2147483647 ∧ 0 ≤ c' ∧ 0 ≤ v ∧ v < m := by
      intro _ _
      by_cases h1 : c < cells.length
      · obtain ⟨y, hy, e⟩ := atI_some (xs := cells) hc h1
        have e2 : idxD (.lst (cells.map .int)) (.int c) (bg 0 b c (cells.map .int) :: r) = .ok (.int y) (bg 0 b c (cells.map .int) :: r) := by
          have e3 : atI (cells.map D.int) c = some (.int y) := by
            obtain ⟨n, rfl⟩ := Int.eq_ofNat_of_zero_le hc
            have hn : n < cells.length := by omega
            rw [atI_nat (List.getElem?_eq_getElem hn)] at e
            refine atI_nat ?_
            rw [List.getElem?_map, List.getElem?_eq_getElem hn, Option.some.inj e]
            rfl
          simp only [idxD, asS, asL, e3]
        have hy0 := hcs y hy
        by_cases h2 : y ≥ 1000000000000000000
        · obtain ⟨v, a', e4, r1, r2, r3⟩ := take_end (a := y) (b := (b * 48271 + y % 2147483647 + 7919 * (c + 1)) % 2147483647) (c := c + 1) (l := cells.map .int) (r := r) (o2 := none) (o3 := none) (o4 := some (.int y)) (o5 := some (.int (b * 48271 + y % 2147483647 + 7919 * (c + 1)))) (o6 := none) hy0 (Int.emod_nonneg _ (by decide)) (Int.emod_lt_of_pos _ k1) hm hm2
          refine ⟨v, a', (b * 48271 + y % 2147483647 + 7919 * (c + 1)) % 2147483647, c + 1, ?_, r1, Int.emod_nonneg _ (by decide), Int.emod_lt_of_pos _ k1, by omega, r2, r3⟩
          refine Eq.trans (seq_nx ?_) e4
          simp [zSeq_at, h1, h2, e2, mod_int k1, mul_int (.inr k2), mul_int (.inl k3)]
        · obtain ⟨v, a', e4, r1, r2, r3⟩ := take_end (a := 0) (b := (b * 48271 + y % 2147483647 + 7919 * (c + 1)) % 2147483647) (c := c + 1) (l := cells.map .int) (r := r) (o2 := none) (o3 := none) (o4 := some (.int y)) (o5 := some (.int (b * 48271 + y % 2147483647 + 7919 * (c + 1)))) (o6 := none) (Int.le_refl 0) (Int.emod_nonneg _ (by decide)) (Int.emod_lt_of_pos _ k1) hm hm2
          refine ⟨v, a', (b * 48271 + y % 2147483647 + 7919 * (c + 1)) % 2147483647, c + 1, ?_, r1, Int.emod_nonneg _ (by decide), Int.emod_lt_of_pos _ k1, by omega, r2, r3⟩
          refine Eq.trans (seq_nx ?_) e4
          simp [zSeq_at, h1, h2, e2, mod_int k1, mul_int (.inr k2), mul_int (.inl k3)]
      · obtain ⟨v, a', e4, r1, r2, r3⟩ := take_end (a := 0) (b := (b * 48271 + 0 % 2147483647 + 7919 * (c + 1)) % 2147483647) (c := c + 1) (l := cells.map .int) (r := r) (o2 := none) (o3 := none) (o4 := some (.int 0)) (o5 := some (.int (b * 48271 + 0 % 2147483647 + 7919 * (c + 1)))) (o6 := none) (Int.le_refl 0) (Int.emod_nonneg _ (by decide)) (Int.emod_lt_of_pos _ k1) hm hm2
        refine ⟨v, a', (b * 48271 + 0 % 2147483647 + 7919 * (c + 1)) % 2147483647, c + 1, ?_, r1, Int.emod_nonneg _ (by decide), Int.emod_lt_of_pos _ k1, by omega, r2, r3⟩
        refine Eq.trans (seq_nx ?_) e4
        simp [zSeq_at, h1, mod_int k1, mul_int (.inr k2), mul_int (.inl k3)]
    exact fin 0 (by omega)
  · obtain ⟨v, a', e, r1, r2, r3⟩ := take_end (a := a) (b := b) (c := c) (l := cells.map .int) (r := r) (o2 := none) (o3 := none) (o4 := none) (o5 := none) (o6 := none) ha hb hb2 hm hm2
    refine ⟨v, a', b, c, ?_, r1, hb, hb2, hc, r2, r3⟩
    refine Eq.trans (seq_nx ?_) e
    simp [h]
/-- a drawing, by its call -/
theorem take_call {T : Tab} (hT : T "_law_take" = some ⟨2, 7, bTake⟩) {k : Nat} {o : O} {r : Hh} {m : Int} (B : Bg o) (hm : 0 < m) (hm2 : m < 1073741824) :
    ∃ v o', callN T (k + 1) "_law_take" [.ref 0, .int m] (o :: r) = .ok (.int v) (o' :: r) ∧ Bg o' ∧ 0 ≤ v ∧ v < m := by
  obtain ⟨a, b, c, cells, rfl, h1, h2, h3, h4, h5⟩ := B.ex
  obtain ⟨v, a', b', c', e, r1, r2, r3, r4, r5, r6⟩ := take_go (cl := callN T k) (r := r) h1 h2 h3 h4 h5 hm hm2
  refine ⟨v, bg a' b' c' (cells.map .int), ?_, ⟨a', b', c', cells, rfl, r1, r2, r3, r4, h5⟩, r5, r6⟩
  exact call_rt hT rfl e rfl
end Bx
namespace Bx
open PySem PySem.Spec PyProof.Rows L2
section
variable {h : Hh} {ds es : List D} {a b c d : D} {x : Str}
theorem atI0 {α : Type} {a : α} {l : List α} : atI (a :: l) 0 = some a := atI_nat (j := 0) rfl
theorem atI1 {α : Type} {a b : α} {l : List α} : atI (a :: b :: l) 1 = some b := atI_nat (j := 1) rfl
theorem atI2 {α : Type} {a b c : α} {l : List α} : atI (a :: b :: c :: l) 2 = some c := atI_nat (j := 2) rfl
@[simp] theorem idx_t0 : idxD (.tup (a :: ds)) (.int 0) h = .ok a h := by simp only [idxD, asS, atI0]
@[simp] theorem idx_t1 : idxD (.tup (a :: b :: ds)) (.int 1) h = .ok b h := by simp only [idxD, asS, atI1]
@[simp] theorem idx_t2 : idxD (.tup (a :: b :: c :: ds)) (.int 2) h = .ok c h := by simp only [idxD, asS, atI2]
@[simp] theorem idx_l0 : idxD (.lst (a :: ds)) (.int 0) h = .ok a h := by simp only [idxD, asS, asL, atI0]
@[simp] theorem idx_l1 : idxD (.lst (a :: b :: ds)) (.int 1) h = .ok b h := by simp only [idxD, asS, asL, atI1]
@[simp] theorem len_tup : biS .len [.tup ds] h = .ok (.int ds.length) h := id rfl
theorem len_str (e : x.length ≤ sizeLine) : biS .len [.str x] h = .ok (.int x.length) h := by
  simp [biS, bLen, sz, e]
@[simp] theorem slc_t1 : slcD (.tup (a :: ds)) (some 1) none h = .ok (.tup ds) h := by
  have e1 : HT.sIx (a :: ds).length 0 (some 1) = 1 := by
    rw [show HT.sIx (a :: ds).length 0 (some 1) = min 1 (a :: ds).length from HT.sIx_nat _ 0 1, List.length_cons]
    omega
  simp only [slcD, e1, HT.sIx_none]
  simp only [List.length_cons, Nat.add_sub_cancel, List.drop_succ_cons, List.drop_zero, List.take_length]
@[simp] theorem list_tup : biS .list [.tup ds] h = .ok (.lst ds) h := id rfl
@[simp] theorem int_bl {k : Bool} : biS .int [.bl k] h = .ok (.int (if k then 1 else 0)) h := id rfl
@[simp] theorem items_lst : itemsD (.lst ds) h = .ok ds h := id rfl
@[simp] theorem items_tup : itemsD (.tup ds) h = .ok ds h := id rfl
@[simp] theorem items_str : itemsD (.str x) h = .ok (x.cps.toList.map fun c => .str ⟨#[c]⟩) h := id rfl
@[simp] theorem iV_at {f : Fn} {ρ : Rho} : iV f ρ h = (f ρ h).bind fun d h1 => itemsD d h1 := id rfl
@[simp] theorem iR1_at {f : Fl} {ρ : Rho} : iR1 f ρ h = (f ρ h).bind fun ds h1 => rng1D ds h1 := id rfl
theorem rng_at {j : Int} (h1 : -(2 ^ 62) ≤ j) (h2 : j < 2 ^ 62) : rng1D [.int j] h = .ok ((List.range j.toNat).map fun (k : Nat) => .int (0 + (k : Int))) h := by
  simp only [rng1D, h1, h2, decide_true, Bool.and_self, if_true]
@[simp] theorem all_at {bs : List Bool} : biS .all [.lst (bs.map .bl)] h = .ok (.bl (bs.all id)) h := by simp [biS, bBls, asL]
@[simp] theorem any_at {bs : List Bool} : biS .any [.lst (bs.map .bl)] h = .ok (.bl (bs.any id)) h := by simp [biS, bBls, asL]
@[simp] theorem eq_nil : eqD (.lst ds) (.lst []) h = .ok (.bl ds.isEmpty) h := by
  cases ds with
  | nil => rfl
  | cons a r => simp [eqD, difL, asL]
@[simp] theorem ne_nil : neD (.lst ds) (.lst []) h = .ok (.bl (!ds.isEmpty)) h := by
  cases ds with
  | nil => rfl
  | cons a r => simp [neD, difL, asL]
end
section
variable {h : Hh} {k : Bool} {i : Int} {x : Str} {ds : List D} {kds : List (Key × D)}
@[simp] theorem isi_non_int : biS .isi [.non, .val (.ty "int")] h = .ok (.bl false) h := by simp only [biS, bIsi, tyN, show kitB "NoneType" "int" = some false by decide +kernel]
@[simp] theorem isi_non_bool : biS .isi [.non, .val (.ty "bool")] h = .ok (.bl false) h := by simp only [biS, bIsi, tyN, show kitB "NoneType" "bool" = some false by decide +kernel]
@[simp] theorem isi_non_str : biS .isi [.non, .val (.ty "str")] h = .ok (.bl false) h := by simp only [biS, bIsi, tyN, show kitB "NoneType" "str" = some false by decide +kernel]
@[simp] theorem isi_non_tuple : biS .isi [.non, .val (.ty "tuple")] h = .ok (.bl false) h := by simp only [biS, bIsi, tyN, show kitB "NoneType" "tuple" = some false by decide +kernel]
@[simp] theorem isi_non_list : biS .isi [.non, .val (.ty "list")] h = .ok (.bl false) h := by simp only [biS, bIsi, tyN, show kitB "NoneType" "list" = some false by decide +kernel]
@[simp] theorem isi_non_dict : biS .isi [.non, .val (.ty "dict")] h = .ok (.bl false) h := by simp only [biS, bIsi, tyN, show kitB "NoneType" "dict" = some false by decide +kernel]
@[simp] theorem isi_bl_int : biS .isi [(.bl k), .val (.ty "int")] h = .ok (.bl true) h := by simp only [biS, bIsi, tyN, show kitB "bool" "int" = some true by decide +kernel]
@[simp] theorem isi_bl_bool : biS .isi [(.bl k), .val (.ty "bool")] h = .ok (.bl true) h := by simp only [biS, bIsi, tyN, show kitB "bool" "bool" = some true by decide +kernel]
@[simp] theorem isi_bl_str : biS .isi [(.bl k), .val (.ty "str")] h = .ok (.bl false) h := by simp only [biS, bIsi, tyN, show kitB "bool" "str" = some false by decide +kernel]
@[simp] theorem isi_bl_tuple : biS .isi [(.bl k), .val (.ty "tuple")] h = .ok (.bl false) h := by simp only [biS, bIsi, tyN, show kitB "bool" "tuple" = some false by decide +kernel]
@[simp] theorem isi_bl_list : biS .isi [(.bl k), .val (.ty "list")] h = .ok (.bl false) h := by simp only [biS, bIsi, tyN, show kitB "bool" "list" = some false by decide +kernel]
@[simp] theorem isi_bl_dict : biS .isi [(.bl k), .val (.ty "dict")] h = .ok (.bl false) h := by simp only [biS, bIsi, tyN, show kitB "bool" "dict" = some false by decide +kernel]
@[simp] theorem isi_int_int : biS .isi [(.int i), .val (.ty "int")] h = .ok (.bl true) h := by simp only [biS, bIsi, tyN, show kitB "int" "int" = some true by decide +kernel]
@[simp] theorem isi_int_bool : biS .isi [(.int i), .val (.ty "bool")] h = .ok (.bl false) h := by simp only [biS, bIsi, tyN, show kitB "int" "bool" = some false by decide +kernel]
@[simp] theorem isi_int_str : biS .isi [(.int i), .val (.ty "str")] h = .ok (.bl false) h := by simp only [biS, bIsi, tyN, show kitB "int" "str" = some false by decide +kernel]
@[simp] theorem isi_int_tuple : biS .isi [(.int i), .val (.ty "tuple")] h = .ok (.bl false) h := by simp only [biS, bIsi, tyN, show kitB "int" "tuple" = some false by decide +kernel]
@[simp] theorem isi_int_list : biS .isi [(.int i), .val (.ty "list")] h = .ok (.bl false) h := by simp only [biS, bIsi, tyN, show kitB "int" "list" = some false by decide +kernel]
@[simp] theorem isi_int_dict : biS .isi [(.int i), .val (.ty "dict")] h = .ok (.bl false) h := by simp only [biS, bIsi, tyN, show kitB "int" "dict" = some false by decide +kernel]
@[simp] theorem isi_str_int : biS .isi [(.str x), .val (.ty "int")] h = .ok (.bl false) h := by simp only [biS, bIsi, tyN, show kitB "str" "int" = some false by decide +kernel]
@[simp] theorem isi_str_bool : biS .isi [(.str x), .val (.ty "bool")] h = .ok (.bl false) h := by simp only [biS, bIsi, tyN, show kitB "str" "bool" = some false by decide +kernel]
@[simp] theorem isi_str_str : biS .isi [(.str x), .val (.ty "str")] h = .ok (.bl true) h := by simp only [biS, bIsi, tyN, show kitB "str" "str" = some true by decide +kernel]
@[simp] theorem isi_str_tuple : biS .isi [(.str x), .val (.ty "tuple")] h = .ok (.bl false) h := by simp only [biS, bIsi, tyN, show kitB "str" "tuple" = some false by decide +kernel]
@[simp] theorem isi_str_list : biS .isi [(.str x), .val (.ty "list")] h = .ok (.bl false) h := by simp only [biS, bIsi, tyN, show kitB "str" "list" = some false by decide +kernel]
@[simp] theorem isi_str_dict : biS .isi [(.str x), .val (.ty "dict")] h = .ok (.bl false) h := by simp only [biS, bIsi, tyN, show kitB "str" "dict" = some false by decide +kernel]
@[simp] theorem isi_tup_int : biS .isi [(.tup ds), .val (.ty "int")] h = .ok (.bl false) h := by simp only [biS, bIsi, tyN, show kitB "tuple" "int" = some false by decide +kernel]
@[simp] theorem isi_tup_bool : biS .isi [(.tup ds), .val (.ty "bool")] h = .ok (.bl false) h := by simp only [biS, bIsi, tyN, show kitB "tuple" "bool" = some false by decide +kernel]
@[simp] theorem isi_tup_str : biS .isi [(.tup ds), .val (.ty "str")] h = .ok (.bl false) h := by simp only [biS, bIsi, tyN, show kitB "tuple" "str" = some false by decide +kernel]
@[simp] theorem isi_tup_tuple : biS .isi [(.tup ds), .val (.ty "tuple")] h = .ok (.bl true) h := by simp only [biS, bIsi, tyN, show kitB "tuple" "tuple" = some true by decide +kernel]
@[simp] theorem isi_tup_list : biS .isi [(.tup ds), .val (.ty "list")] h = .ok (.bl false) h := by simp only [biS, bIsi, tyN, show kitB "tuple" "list" = some false by decide +kernel]
@[simp] theorem isi_tup_dict : biS .isi [(.tup ds), .val (.ty "dict")] h = .ok (.bl false) h := by simp only [biS, bIsi, tyN, show kitB "tuple" "dict" = some false by decide +kernel]
@[simp] theorem isi_lst_int : biS .isi [(.lst ds), .val (.ty "int")] h = .ok (.bl false) h := by simp only [biS, bIsi, tyN, show kitB "list" "int" = some false by decide +kernel]
@[simp] theorem isi_lst_bool : biS .isi [(.lst ds), .val (.ty "bool")] h = .ok (.bl false) h := by simp only [biS, bIsi, tyN, show kitB "list" "bool" = some false by decide +kernel]
@[simp] theorem isi_lst_str : biS .isi [(.lst ds), .val (.ty "str")] h = .ok (.bl false) h := by simp only [biS, bIsi, tyN, show kitB "list" "str" = some false by decide +kernel]
@[simp] theorem isi_lst_tuple : biS .isi [(.lst ds), .val (.ty "tuple")] h = .ok (.bl false) h := by simp only [biS, bIsi, tyN, show kitB "list" "tuple" = some false by decide +kernel]
@[simp] theorem isi_lst_list : biS .isi [(.lst ds), .val (.ty "list")] h = .ok (.bl true) h := by simp only [biS, bIsi, tyN, show kitB "list" "list" = some true by decide +kernel]
@[simp] theorem isi_lst_dict : biS .isi [(.lst ds), .val (.ty "dict")] h = .ok (.bl false) h := by simp only [biS, bIsi, tyN, show kitB "list" "dict" = some false by decide +kernel]
@[simp] theorem isi_dct_int : biS .isi [(.dct kds), .val (.ty "int")] h = .ok (.bl false) h := by simp only [biS, bIsi, tyN, show kitB "dict" "int" = some false by decide +kernel]
@[simp] theorem isi_dct_bool : biS .isi [(.dct kds), .val (.ty "bool")] h = .ok (.bl false) h := by simp only [biS, bIsi, tyN, show kitB "dict" "bool" = some false by decide +kernel]
@[simp] theorem isi_dct_str : biS .isi [(.dct kds), .val (.ty "str")] h = .ok (.bl false) h := by simp only [biS, bIsi, tyN, show kitB "dict" "str" = some false by decide +kernel]
@[simp] theorem isi_dct_tuple : biS .isi [(.dct kds), .val (.ty "tuple")] h = .ok (.bl false) h := by simp only [biS, bIsi, tyN, show kitB "dict" "tuple" = some false by decide +kernel]
@[simp] theorem isi_dct_list : biS .isi [(.dct kds), .val (.ty "list")] h = .ok (.bl false) h := by simp only [biS, bIsi, tyN, show kitB "dict" "list" = some false by decide +kernel]
@[simp] theorem isi_dct_dict : biS .isi [(.dct kds), .val (.ty "dict")] h = .ok (.bl true) h := by simp only [biS, bIsi, tyN, show kitB "dict" "dict" = some true by decide +kernel]
end
section
variable {ρ : Rho} {h : Hh} {ds : List D} {i : Nat} {c : Ft} {e : Fn}
@[simp] theorem lc_at {f : List D → Hh → Res D} {it : Fl} {own : List Nat} {t : Fg} : xLcG f it own t c e ρ h = ((it ρ h).bind fun ds h1 => if sz ds.length then noX (lcL t c e (wipeR ρ own) ds h1) else .bad).bind f := id rfl
@[simp] theorem wipe1 : wipeR ρ [i] = ρ.set i none := id rfl
@[simp] theorem noX_ok {α : Type} {x : α} : noX (.ok x h) = .ok x h := id rfl
@[simp] theorem lcF_at : lcF ds h = .ok (.lst ds) h := id rfl
theorem lc_map {α : Type} {xs : List α} {g : α → D} {f : α → D} (he : ∀ x ∈ xs, e (ρ.set i (some (g x))) h = .ok (f x) h) : lcL (gN i) yYes e ρ (xs.map g) h = .ok (xs.map f) h := by
  induction xs with
  | nil => rfl
  | cons a r ih =>
    simp only [List.map_cons, lcL, gN_at, yYes_at, bind_ok, if_true]
    rw [he a (List.mem_cons_self ..)]
    simp only [bind_ok]
    rw [ih fun x hx => he x (List.mem_cons_of_mem _ hx)]
    rfl
theorem lc_mapD {f : D → D} (he : ∀ x ∈ ds, e (ρ.set i (some x)) h = .ok (f x) h) : lcL (gN i) yYes e ρ ds h = .ok (ds.map f) h := by
  have z := lc_map (g := id) (i := i) (ρ := ρ) (h := h) (e := e) (f := f) (xs := ds) he
  rwa [List.map_id] at z
theorem lc_filter {p : D → Bool} (hc : ∀ x ∈ ds, c (ρ.set i (some x)) h = .ok (p x) h) (he : ∀ x ∈ ds, e (ρ.set i (some x)) h = .ok x h) : lcL (gN i) c e ρ ds h = .ok (ds.filter p) h := by
  induction ds with
  | nil => rfl
  | cons a r ih =>
    simp only [lcL, gN_at]
    rw [hc a (List.mem_cons_self ..)]
    simp only [bind_ok]
    have ih' := ih (fun x hx => hc x (List.mem_cons_of_mem _ hx)) (fun x hx => he x (List.mem_cons_of_mem _ hx))
    by_cases q : p a = true
    · rw [if_pos q, he a (List.mem_cons_self ..)]
      simp only [bind_ok]
      rw [ih']
      simp only [bind_ok, List.filter_cons_of_pos q]
    · rw [if_neg q, ih', List.filter_cons_of_neg q]
theorem lc_inv {I : Hh → Prop} {P : D → Prop} (he : ∀ x ∈ ds, ∀ h, I h → ∃ y h', e (ρ.set i (some x)) h = .ok y h' ∧ I h' ∧ P y) (h0 : I h) : ∃ ys h', lcL (gN i) yYes e ρ ds h = .ok ys h' ∧ I h' ∧ ys.length = ds.length ∧ ∀ y ∈ ys, P y := by
  induction ds generalizing h with
  | nil => exact ⟨[], h, rfl, h0, rfl, fun y hy => by cases hy⟩
  | cons a r ih =>
    obtain ⟨y, h', e1, i1, p1⟩ := he a (List.mem_cons_self ..) h h0
    obtain ⟨ys, h2, e2, i2, l2, p2⟩ := ih (fun x hx => he x (List.mem_cons_of_mem _ hx)) i1
    refine ⟨y :: ys, h2, ?_, i2, by simp [l2], fun z hz => ?_⟩
    · simp only [lcL, gN_at, yYes_at, bind_ok, if_true, e1, e2]
    · rcases List.mem_cons.mp hz with rfl | hz
      · exact p1
      · exact p2 z hz
/-- a loop that never leaves early -/
theorem loop_inv {t : Fg} {b : Fs} {I : Rho → Hh → Prop} (hb : ∀ d ∈ ds, ∀ ρ h, I ρ h → ∃ ρ1 ρ2 h2, t d ρ = some ρ1 ∧ b ρ1 h = .nx ρ2 h2 ∧ I ρ2 h2) (h0 : I ρ h) : ∃ ρ' h', loopS t b ds ρ h = .nx ρ' h' ∧ I ρ' h' := by
  induction ds generalizing ρ h with
  | nil => exact ⟨ρ, h, rfl, h0⟩
  | cons a r ih =>
    obtain ⟨ρ1, ρ2, h2, e1, e2, i2⟩ := hb a (List.mem_cons_self ..) ρ h h0
    obtain ⟨ρ', h', e3, i3⟩ := ih (fun x hx => hb x (List.mem_cons_of_mem _ hx)) i2
    exact ⟨ρ', h', by simp only [loopS, e1, e2, e3], i3⟩
end
/-- a text's signs within another's -/
theorem in_sign {h : Hh} {c : Nat} {z : Str} : inD (.str ⟨#[c]⟩) (.str z) h = .ok (.bl (decide (c ∈ z.cps.toList))) h := rfl
theorem nin_sign {h : Hh} {c : Nat} {z : Str} : ninD (.str ⟨#[c]⟩) (.str z) h = .ok (.bl (!decide (c ∈ z.cps.toList))) h := rfl
end Bx
namespace Bx
open PySem PySem.Spec PyProof.Rows L2
def bBag (cl : Str → List D → Hh → Res D) : Fs :=
  zRet (xNlst (xCons (xC (.int 0)) (xCons (xC (.int 1234567891)) (xCons (xC (.int 0)) (xCons (xLcG lcF (iV (xSlc (xV 0) (xNo) (xSome (xC (.int 63))))) [1] (gN 1) (yYes) (xBi .abs (xCons (xV 1) (xNil)))) (xNil))))))
def bOne (cl : Str → List D → Hh → Res D) : Fs :=
  zRet (xIdx (xV 1) (xCall 2 (cl "_law_take") (xCons (xV 0) (xCons (xBi .len (xCons (xV 1) (xNil))) (xNil)))))
def bNames (cl : Str → List D → Hh → Res D) : Fs :=
  zSeq (zSet 2 (xStr1 splitD (xC (.str "list pair fun same then a ab abc row both as names zzzzzzzz book word z")) (xC (.str " "))))
    (zSeq (zAsg (gT2 5 6) (xTup (xCons (xCall 2 (cl "_law_take") (xCons (xV 0) (xCons (xC (.int 4)) (xNil)))) (xCons (xCall 2 (cl "_law_take") (xCons (xV 0) (xCons (xC (.int 16)) (xNil)))) (xNil)))))
    (zSeq (zIf (yV (xBin eqD (xV 5) (xC (.int 0)))) (zRet (xBi .sorted (xCons (xSlc (xBin addD (xSlc (xV 2) (xSome (xV 6)) (xNo)) (xSlc (xV 2) (xNo) (xSome (xV 6)))) (xNo) (xSome (xV 1))) (xNil)))) (zNext))
    (zSeq (zIf (yV (xBin eqD (xV 5) (xC (.int 1)))) (zRet (xBi .sorted (xCons (xLcG lcF (iR1 (xCons (xV 1) (xNil))) [7] (gN 7) (yYes) (xSlc (xC (.str "aaaaaaaa")) (xNo) (xSome (xBin addD (xV 7) (xC (.int 1)))))) (xNil)))) (zNext))
    (zSeq (zSet 3 (xC (.str "abcdefghijklmnopqrstuvwxyz")))
    (zSeq (zSet 4 (xStr1 joinD (xC (.str "")) (xLcG lcF (iR1 (xCons (xBin subD (xV 5) (xC (.int 1))) (xNil))) [7] (gN 7) (yYes) (xIdx (xV 3) (xCall 2 (cl "_law_take") (xCons (xV 0) (xCons (xC (.int 26)) (xNil))))))))
    (zRet (xBi .sorted (xCons (xLcG lcF (iR1 (xCons (xV 1) (xNil))) [7] (gN 7) (yYes) (xBin addD (xV 4) (xIdx (xV 3) (xBin modD (xBi .int (xCons (xBin addD (xV 6) (xBin mulD (xC (.int 3)) (xV 7))) (xNil))) (xC (.int 26)))))) (xNil)))))))))

/-- small texts -/
structure SS (n : Nat) (x : Str) : Prop where
  le : x.length ≤ n
  sm : ∀ c ∈ x.cps.toList, 97 ≤ c ∧ c ≤ 122
theorem SS.mono {n m : Nat} {x : Str} (s : SS n x) (h : n ≤ m) : SS m x := ⟨Nat.le_trans s.le h, s.sm⟩
def ssB (n : Nat) (x : Str) : Bool := decide (x.length ≤ n) && x.cps.toList.all fun c => decide (97 ≤ c ∧ c ≤ 122)
theorem ss_of {n : Nat} {x : Str} (h : ssB n x = true) : SS n x := by
  simp only [ssB, Bool.and_eq_true, decide_eq_true_eq, List.all_eq_true] at h
  exact ⟨h.1, h.2⟩
theorem sz_of {n : Nat} (e : n ≤ 1000) : sz n = true := by
  simp only [sz, decide_eq_true_eq]
  exact Nat.le_trans e (by decide)
theorem str_len {x : Str} : x.length = x.cps.toList.length := by
  rw [Array.length_toList]
  rfl
theorem ss_cut {n : Nat} {x : Str} {lo hi : Option Int} (s : SS n x) : SS n (cutS x lo hi) := by
  refine ⟨?_, fun c hc => ?_⟩
  · rw [str_len]
    simp only [cutS, List.length_take, List.length_drop]
    have := s.le
    rw [str_len] at this
    omega
  · simp only [cutS] at hc
    exact s.sm c (List.mem_of_mem_drop (List.mem_of_mem_take hc))
theorem app_list (x y : Str) : (x ++ y).cps.toList = x.cps.toList ++ y.cps.toList := by
  show (x.cps ++ y.cps).toList = _
  rw [Array.toList_append]
theorem ss_app {n m : Nat} {x y : Str} (s : SS n x) (t : SS m y) : SS (n + m) (x ++ y) := by
  refine ⟨?_, fun c hc => ?_⟩
  · rw [str_len, app_list, List.length_append]
    have := s.le
    have := t.le
    rw [str_len] at *
    omega
  · rw [app_list] at hc
    rcases List.mem_append.mp hc with h | h
    · exact s.sm c h
    · exact t.sm c h
section
variable {T : Tab} {j : Nat} {o : O} {r : Hh}
theorem bag_call (hT : T "_law_bag" = some ⟨1, 2, bBag⟩) {ns : List Int} (hl : ns.length ≤ 1000) : ∃ o, callN T (j + 1) "_law_bag" [.scr ns] [] = .ok (.ref 0) [o] ∧ Bg o := by
  generalize hx : (ns.drop (HT.sIx ns.length 0 none)).take (HT.sIx ns.length ns.length (some 63) - HT.sIx ns.length 0 none) = xs
  have hz : sz xs.length = true := sz_of (by
    rw [← hx, List.length_take, List.length_drop]
    omega)
  have hs : slcD (.scr ns) none (some 63) [] = .ok (.lst (xs.map .int)) [] := by
    simp only [slcD, hx]
  have hc : lcL (gN 1) yYes (xBi .abs (xCons (xV 1) (xNil))) [some (D.scr ns), none] (xs.map .int) [] = .ok (xs.map fun i => D.int (if i < 0 then -i else i)) [] := lc_map fun i _ => by simp
  refine ⟨bg 0 1234567891 0 ((xs.map fun i => if i < 0 then -i else i).map .int), ?_, ⟨0, 1234567891, 0, xs.map fun i => if i < 0 then -i else i, rfl, by decide, by decide, by decide, by decide, fun x hx => ?_⟩⟩
  · rw [call_at hT rfl]
    simp [bBag, startR, hs, hz, hc]
    have h4 : sz 4 = true := by decide
    simp only [h4, if_true, bg]
    have hb : Bels 0 [D.int 0, .int 1234567891, .int 0, .lst (xs.map fun i => D.int (if i < 0 then -i else i))] := .cons (.int _) (.cons (.int _) (.cons (.int _) (.cons (.lst (.of fun d hd => by
      obtain ⟨i, _, rfl⟩ := List.mem_map.mp hd
      exact .int _)) .nil)))
    exact endC_new (h := []) (x := [.lst _]) (k := 0) (o := .lst _) rfl (Nat.le_refl _) hb
  · obtain ⟨i, _, rfl⟩ := List.mem_map.mp hx
    split <;> omega
theorem atI_mem {α : Type} {xs : List α} {i : Int} (h0 : 0 ≤ i) (h1 : i < xs.length) : ∃ x, x ∈ xs ∧ atI xs i = some x := by
  obtain ⟨n, rfl⟩ := Int.eq_ofNat_of_zero_le h0
  have hn : n < xs.length := by omega
  exact ⟨xs[n], List.getElem_mem hn, atI_nat (List.getElem?_eq_getElem hn)⟩
theorem idx_lst {h : Hh} {xs : List D} {i : Int} (h0 : 0 ≤ i) (h1 : i < xs.length) : ∃ x, x ∈ xs ∧ idxD (.lst xs) (.int i) h = .ok x h := by
  obtain ⟨x, hx, e⟩ := atI_mem h0 h1
  exact ⟨x, hx, by simp only [idxD, asS, asL, e]⟩
theorem idx_tup {h : Hh} {xs : List D} {i : Int} (h0 : 0 ≤ i) (h1 : i < xs.length) : ∃ x, x ∈ xs ∧ idxD (.tup xs) (.int i) h = .ok x h := by
  obtain ⟨x, hx, e⟩ := atI_mem h0 h1
  exact ⟨x, hx, by simp only [idxD, asS, e]⟩
theorem idx_str {h : Hh} {z : Str} {i : Int} (hz : z.length ≤ 1000) (h0 : 0 ≤ i) (h1 : i < z.length) : ∃ c, c ∈ z.cps.toList ∧ idxD (.str z) (.int i) h = .ok (.str ⟨#[c]⟩) h := by
  rw [str_len] at h1
  obtain ⟨x, hx, e⟩ := atI_mem h0 h1
  exact ⟨x, hx, by simp only [idxD, e, sz_of hz, if_true]⟩
theorem one_lst (hT : T "_law_take" = some ⟨2, 7, bTake⟩) (h1 : T "_law_one" = some ⟨2, 2, bOne⟩) (B : Bg o) {xs : List D} (hx : 0 < xs.length) (hx2 : xs.length ≤ 1000) :
    ∃ x o', callN T (j + 2) "_law_one" [.ref 0, .lst xs] (o :: r) = .ok x (o' :: r) ∧ x ∈ xs ∧ Bg o' := by
  obtain ⟨v, o', e, B', v0, v1⟩ := take_call hT (k := j) (r := r) B (m := xs.length) (by omega) (by omega)
  obtain ⟨x, hm, e2⟩ := idx_lst (h := o' :: r) v0 v1
  refine ⟨x, o', ?_, hm, B'⟩
  rw [call_at h1 rfl]
  simp [bOne, startR, e, e2]
theorem one_str (hT : T "_law_take" = some ⟨2, 7, bTake⟩) (h1 : T "_law_one" = some ⟨2, 2, bOne⟩) (B : Bg o) {z : Str} (hx : 0 < z.length) (hx2 : z.length ≤ 1000) :
    ∃ c o', callN T (j + 2) "_law_one" [.ref 0, .str z] (o :: r) = .ok (.str ⟨#[c]⟩) (o' :: r) ∧ c ∈ z.cps.toList ∧ Bg o' := by
  obtain ⟨v, o', e, B', v0, v1⟩ := take_call hT (k := j) (r := r) B (m := z.length) (by omega) (by omega)
  obtain ⟨x, hm, e2⟩ := idx_str (h := o' :: r) hx2 v0 v1
  refine ⟨x, o', ?_, hm, B'⟩
  rw [call_at h1 rfl]
  have hz : z.length ≤ sizeLine := Nat.le_trans hx2 (by decide)
  simp [bOne, startR, len_str hz, e, e2]
end
theorem slc_lo {h : Hh} {ds : List D} {t : Nat} : slcD (.lst ds) (some (t : Int)) none h = .ok (.lst (ds.drop t)) h := by
  simp only [slcD, asL, HT.sIx_nat, HT.sIx_none]
  congr 2
  rw [List.take_of_length_le (by rw [List.length_drop]; exact Nat.le_refl _)]
  by_cases e : t ≤ ds.length
  · rw [Nat.min_eq_left e]
  · rw [Nat.min_eq_right (by omega), List.drop_length, List.drop_eq_nil_of_le (by omega)]
theorem slc_hi {h : Hh} {ds : List D} {t : Nat} : slcD (.lst ds) none (some (t : Int)) h = .ok (.lst (ds.take t)) h := by
  simp only [slcD, asL, HT.sIx_nat, HT.sIx_none, List.drop_zero, Nat.sub_zero]
  congr 2
  by_cases e : t ≤ ds.length
  · rw [Nat.min_eq_left e]
  · rw [Nat.min_eq_right (by omega), List.take_length, List.take_of_length_le (by omega)]
theorem slct_lo {h : Hh} {ds : List D} {t : Nat} : slcD (.tup ds) (some (t : Int)) none h = .ok (.tup (ds.drop t)) h := by
  simp only [slcD, HT.sIx_nat, HT.sIx_none]
  congr 2
  rw [List.take_of_length_le (by rw [List.length_drop]; exact Nat.le_refl _)]
  by_cases e : t ≤ ds.length
  · rw [Nat.min_eq_left e]
  · rw [Nat.min_eq_right (by omega), List.drop_length, List.drop_eq_nil_of_le (by omega)]
theorem slct_hi {h : Hh} {ds : List D} {t : Nat} : slcD (.tup ds) none (some (t : Int)) h = .ok (.tup (ds.take t)) h := by
  simp only [slcD, HT.sIx_nat, HT.sIx_none, List.drop_zero, Nat.sub_zero]
  congr 2
  by_cases e : t ≤ ds.length
  · rw [Nat.min_eq_left e]
  · rw [Nat.min_eq_right (by omega), List.take_length, List.take_of_length_le (by omega)]
theorem slc_str {h : Hh} {z : Str} {lo hi : Option Int} (hz : z.length ≤ 1000) : slcD (.str z) lo hi h = .ok (.str (cutS z lo hi)) h := by simp [slcD, sz_of hz]
theorem toDs_strs {h : Hh} : ∀ ys : List Str, toDs h (ys.map .str) = some (ys.map .str)
  | [] => rfl
  | y :: ys => by
    have := toDs_strs (h := h) ys
    simp only [toDs] at this
    simp only [toDs, List.map_cons, toPs, toP, this]
theorem sorted_strs {h : Hh} (ys : List Str) : ∃ zs : List Str, biS .sorted [.lst (ys.map .str)] h = .ok (.lst (zs.map .str)) h ∧ zs.Perm ys := by
  have h1 : alikes (ys.map PyData.str) = true := by simp [alikes, PySem.W.alike]
  have h2 : sortable (ys.map PyData.str) = true := by simp [sortable]
  have h3 : ((ys.map PyData.str).all fun p => decide (p.depth ≤ 150)) = true := by simp [PyData.depth]
  have ez : (ys.map D.str).zip (ys.map PyData.str) = ys.map fun y => (D.str y, PyData.str y) := by
    induction ys with
    | nil => rfl
    | cons y ys ih =>
      simp only [List.map_cons, List.zip_cons_cons, List.cons.injEq, true_and]
      exact ih (by simp [alikes, PySem.W.alike]) (by simp [sortable]) (by simp [PyData.depth])
  have pm : (sortD (ys.map fun y => (D.str y, PyData.str y))).Perm (ys.map fun y => (D.str y, PyData.str y)) := List.mergeSort_perm _ _
  have pm2 := pm.map (·.1)
  rw [List.map_map] at pm2
  have es : sortedL h (ys.map .str) = some ((sortD (ys.map fun y => (D.str y, PyData.str y))).map (·.1)) := by
    simp only [sortedL, toDs_strs, h1, h2, h3, Bool.and_self, if_true, ez]
  obtain ⟨zs, ez1⟩ : ∃ zs : List Str, (sortD (ys.map fun y => (D.str y, PyData.str y))).map (·.1) = zs.map .str := by
    have : ∀ d ∈ (sortD (ys.map fun y => (D.str y, PyData.str y))).map (·.1), ∃ y, d = D.str y := fun d hd => by
      have := pm2.mem_iff.mp hd
      obtain ⟨y, _, rfl⟩ := List.mem_map.mp this
      exact ⟨y, rfl⟩
    generalize (sortD (ys.map fun y => (D.str y, PyData.str y))).map (·.1) = l at this
    induction l with
    | nil => exact ⟨[], rfl⟩
    | cons d l ih =>
      obtain ⟨y, rfl⟩ := this d (List.mem_cons_self ..)
      obtain ⟨zs, e⟩ := ih fun d hd => this d (List.mem_cons_of_mem _ hd)
      exact ⟨y :: zs, by simp [e]⟩
  refine ⟨zs, ?_, ?_⟩
  · simp only [biS, bSrt, asL, es, ez1]
  · rw [ez1] at pm2
    have := pm2.filterMap fun d => match d with | D.str y => some y | _ => none
    simpa [List.filterMap_map, Function.comp_def] using this
abbrev menuS : Str := "list pair fun same then a ab abc row both as names zzzzzzzz book word z"
def menu : List Str := ["list", "pair", "fun", "same", "then", "a", "ab", "abc", "row", "both", "as", "names", "zzzzzzzz", "book", "word", "z"]
theorem split_menu : Txt.split menuS " " = menu := by decide +kernel
abbrev abc : Str := "abcdefghijklmnopqrstuvwxyz"
@[simp] theorem xStr1_at {f : Str → D → Hh → Res D} {a b : Fn} {ρ : Rho} {h : Hh} : xStr1 f a b ρ h = (a ρ h).bind fun x h1 => match x with | .str s => (b ρ h1).bind fun y h2 => f s y h2 | _ => .bad := id rfl
theorem menu_split {h : Hh} : splitD menuS (.str " ") h = .ok (.lst (menu.map .str)) h := by
  simp only [splitD, split_menu]
  rfl
@[simp] theorem zAsg_at {t : Fg} {a : Fn} {ρ : Rho} {h : Hh} : zAsg t a ρ h = SRes.of ρ (a ρ h) fun d h1 => match t d ρ with | some ρ1 => .nx ρ1 h1 | none => .bad := id rfl
@[simp] theorem gT2_at {i j : Nat} {a b : D} {ρ : Rho} : gT2 i j (.tup [a, b]) ρ = some ((ρ.set i (some a)).set j (some b)) := id rfl
theorem join_strs {h : Hh} {s : Str} {ys : List Str} (hy : (ys.map (·.length)).sum + ys.length * s.length ≤ 1000) : joinD s (.lst (ys.map .str)) h = .ok (.str (Txt.join s ys)) h := by
  have : (ys.map (·.length)).sum + ys.length * s.length ≤ 16777216 := Nat.le_trans hy (by decide)
  simp [joinD, asS, asL, this]
theorem lc_rng {fs : Fl} {c : Ft} {e : Fn} {ρ : Rho} {h h1 h2 : Hh} {ys : List D} {i m : Nat} (hf : fs ρ h = .ok [.int (m : Int)] h1) (hm : m ≤ 1000) (hl : lcL (gN i) c e (ρ.set i none) ((List.range m).map fun (k : Nat) => .int (k : Int)) h1 = .ok ys h2) : xLcG lcF (iR1 fs) [i] (gN i) c e ρ h = .ok (.lst ys) h2 := by
  have rg : rng1D [.int (m : Int)] h1 = .ok ((List.range m).map fun (k : Nat) => .int (k : Int)) h1 := by
    have z := rng_at (h := h1) (j := (m : Int)) (by omega) (by omega)
    simpa using z
  have hz : sz ((List.range m).map fun (k : Nat) => D.int (k : Int)).length = true := sz_of (by rw [List.length_map, List.length_range]; exact hm)
  rw [lc_at, iR1_at, hf, bind_ok, rg, bind_ok, if_pos hz, wipe1, hl, noX_ok, bind_ok, lcF_at]
theorem names_call {T : Tab} (hT : T "_law_take" = some ⟨2, 7, bTake⟩) (hN : T "_law_names" = some ⟨2, 8, bNames⟩) {j : Nat} {o : O} {r : Hh} (B : Bg o) {m : Nat} (hm : m ≤ 8) :
    ∃ (xs : List Str) (o' : O), callN T (j + 2) "_law_names" [.ref 0, .int m] (o :: r) = .ok (.lst (xs.map .str)) (o' :: r) ∧ xs.length = m ∧ (∀ x ∈ xs, SS 8 x ∧ 0 < x.length) ∧ Bg o' := by
  obtain ⟨v, o1, e1, B1, v0, v1⟩ := take_call hT (k := j) (r := r) B (m := 4) (by decide) (by decide)
  obtain ⟨t, o2, e2, B2, t0, t1⟩ := take_call hT (k := j) (r := r) B1 (m := 16) (by decide) (by decide)
  rw [call_at hN rfl]
  have h2 : sz 2 = true := by decide
  have hml : ∀ y ∈ menu, SS 8 y ∧ 0 < y.length := fun y hy => by
    have : (menu.all fun y => ssB 8 y && decide (0 < y.length)) = true := by decide +kernel
    have := List.all_eq_true.mp this y hy
    simp only [Bool.and_eq_true, decide_eq_true_eq] at this
    exact ⟨ss_of this.1, this.2⟩
  obtain ⟨tn, rfl⟩ := Int.eq_ofNat_of_zero_le t0
  have head : ∀ zb : Fs, zSeq (zSet 2 (xStr1 splitD (xC (.str "list pair fun same then a ab abc row both as names zzzzzzzz book word z")) (xC (.str " "))))
      (zSeq (zAsg (gT2 5 6) (xTup (xCons (xCall 2 (callN T (j + 1) "_law_take") (xCons (xV 0) (xCons (xC (.int 4)) (xNil)))) (xCons (xCall 2 (callN T (j + 1) "_law_take") (xCons (xV 0) (xCons (xC (.int 16)) (xNil)))) (xNil))))) zb)
      (startR 8 [.ref 0, .int m]) (o :: r) = zb [some (.ref 0), some (.int m), some (.lst (menu.map .str)), none, none, some (.int v), some (.int tn), none] (o2 :: r) := fun zb => by
    rw [seq_nx (ρ1 := [some (.ref 0), some (.int m), some (.lst (menu.map .str)), none, none, none, none, none]) (h1 := o :: r) (by simp [menu_split, startR]), seq_nx]
    simp [e1, e2, h2]
  by_cases c0 : v = 0
  · subst c0
    have hm16 : menu.length = 16 := rfl
    have hadd : addD (.lst ((menu.map D.str).drop tn)) (.lst ((menu.map D.str).take tn)) (o2 :: r) = .ok (.lst ((menu.drop tn ++ menu.take tn).map .str)) (o2 :: r) := by
      have : sz (((menu.map D.str).drop tn).length + ((menu.map D.str).take tn).length) = true := sz_of (by
        simp only [List.length_drop, List.length_take, List.length_map, hm16]
        omega)
      simp only [addD, asL, this, if_true, List.map_append, List.map_drop, List.map_take]
    obtain ⟨zs, ez, pz⟩ := sorted_strs (h := o2 :: r) ((menu.drop tn ++ menu.take tn).take m)
    refine ⟨zs, o2, ?_, ?_, fun x hx => ?_, B2⟩
    · simp [bNames, startR, zSeq_at, menu_split, e1, e2, h2, slc_lo, slc_hi]
      rw [hadd]
      simp only [bind_ok, slc_hi, ← List.map_take, ez, of_ok, endB_rt, endC_cons]
    · rw [pz.length_eq]
      simp only [List.length_take, List.length_append, List.length_drop, hm16]
      omega
    · have := List.mem_of_mem_take (pz.mem_iff.mp hx)
      rcases List.mem_append.mp this with h | h
      · exact hml x (List.mem_of_mem_drop h)
      · exact hml x (List.mem_of_mem_take h)
  by_cases c1 : v = 1
  · subst c1
    have hc : lcL (gN 7) yYes (xSlc (xC (.str "aaaaaaaa")) (xNo) (xSome (xBin addD (xV 7) (xC (.int 1))))) [some (.ref 0), some (.int m), some (.lst (menu.map .str)), none, none, some (.int 1), some (.int tn), none] ((List.range m).map fun (k : Nat) => .int (0 + (k : Int))) (o2 :: r) = .ok ((List.range m).map fun (k : Nat) => D.str (cutS "aaaaaaaa" none (some (0 + (k : Int) + 1)))) (o2 :: r) := lc_map fun k _ => by
      simp [slc_str (show ("aaaaaaaa" : Str).length ≤ 1000 by decide)]
    obtain ⟨zs, ez, pz⟩ := sorted_strs (h := o2 :: r) ((List.range m).map fun (k : Nat) => cutS "aaaaaaaa" none (some (0 + (k : Int) + 1)))
    refine ⟨zs, o2, ?_, ?_, fun x hx => ?_, B2⟩
    · rw [List.map_map] at ez
      simp only [Function.comp_def] at ez
      simp only [Int.zero_add] at hc ez
      simp only [bNames, head]
      rw [seq_nx (ρ1 := [some (.ref 0), some (.int m), some (.lst (menu.map .str)), none, none, some (.int 1), some (.int tn), none]) (h1 := o2 :: r) (by simp [-lc_at]), seq_rt (d := .lst (zs.map .str)) (h1 := o2 :: r)]
      · exact endC_cons
      simp only [zIf_at, yV_at, xBin_at, xV_at, xC_at, List.getElem?_cons_succ, List.getElem?_cons_zero, bind_ok, eq_int, decide_true, isB_at, of_ok, if_true, zRet_at, xBi_at, xCons_at, xNil_at]
      rw [lc_rng (by simp) (by omega) hc]
      simp only [bind_ok, ez, of_ok]
    · rw [pz.length_eq, List.length_map, List.length_range]
    · obtain ⟨k, _, rfl⟩ := List.mem_map.mp (pz.mem_iff.mp hx)
      refine ⟨ss_cut (ss_of (by decide +kernel)), ?_⟩
      have : ∀ k : Fin 8, 0 < (cutS ("aaaaaaaa" : Str) none (some (0 + ((k : Nat) : Int) + 1))).length := by decide +kernel
      exact this ⟨k, by have := List.mem_range.mp ‹_›; omega⟩
  · have c1' : ¬ v = 0 := c0
    have habc : abc.length = 26 := by decide +kernel
    have sabc : SS 26 abc := ss_of (by decide +kernel)
    obtain ⟨ys, h', ec, ⟨o3, eh, B3⟩, ly, py⟩ := lc_inv (i := 7) (e := xIdx (xV 3) (xCall 2 (callN T (j + 1) "_law_take") (xCons (xV 0) (xCons (xC (.int 26)) (xNil))))) (ρ := [some (.ref 0), some (.int m), some (.lst (menu.map .str)), some (.str "abcdefghijklmnopqrstuvwxyz"), none, some (.int v), some (.int tn), none]) (ds := (List.range (v.toNat - 1)).map fun (k : Nat) => .int (0 + (k : Int))) (h := o2 :: r)
      (I := fun h => ∃ o, h = o :: r ∧ Bg o) (P := fun d => ∃ c, d = D.str ⟨#[c]⟩ ∧ (97 ≤ c ∧ c ≤ 122)) (fun d _ h ⟨o, eo, Bo⟩ => by
        subst eo
        obtain ⟨u, o4, e4, B4, u0, u1⟩ := take_call hT (k := j) (r := r) Bo (m := 26) (by decide) (by decide)
        obtain ⟨c, hc, e5⟩ := idx_str (h := o4 :: r) (z := abc) (i := u) (by rw [habc]; decide) u0 (by rw [habc]; exact u1)
        exact ⟨.str ⟨#[c]⟩, o4 :: r, by simp [e4, e5], ⟨o4, rfl, B4⟩, c, rfl, sabc.sm c hc⟩) ⟨o2, rfl, B2⟩
    subst eh
    obtain ⟨xs, ex⟩ : ∃ xs : List Str, ys = xs.map .str := by
      have : ∀ d ∈ ys, ∃ y, d = D.str y := fun d hd => let ⟨c, e, _⟩ := py d hd; ⟨_, e⟩
      clear ec ly py
      induction ys with
      | nil => exact ⟨[], rfl⟩
      | cons d l ih =>
        obtain ⟨y, rfl⟩ := this d (List.mem_cons_self ..)
        obtain ⟨zs, e⟩ := ih fun d hd => this d (List.mem_cons_of_mem _ hd)
        exact ⟨y :: zs, by simp [e]⟩
    subst ex
    have hxs : ∀ x ∈ xs, SS 1 x := fun x hx => by
      obtain ⟨c, e, hc⟩ := py (.str x) (List.mem_map.mpr ⟨x, hx, rfl⟩)
      cases e
      refine ⟨Nat.le_refl 1, fun c' hc' => ?_⟩
      have : c' = c := by simpa using hc'
      rw [this]
      exact hc
    have hlx : xs.length ≤ 2 := by
      rw [List.length_map] at ly
      rw [ly, List.length_map, List.length_range]
      omega
    have hz0 : ("" : Str).length = 0 := rfl
    have hjoin : ∃ st, (∀ h, joinD "" (.lst (xs.map .str)) h = .ok (.str st) h) ∧ SS 2 st := by
      match xs, hlx, hxs with
      | [], _, _ => exact ⟨Txt.join "" [], fun h => join_strs (ys := []) (by decide), ss_of (by decide +kernel)⟩
      | [a], _, hx =>
        have ha := hx a (by simp)
        have e : Txt.join "" [a] = a := rfl
        refine ⟨a, fun h => ?_, ha.mono (by decide)⟩
        rw [join_strs (by have := ha.le; simp [hz0]; omega), e]
      | [a, b], _, hx =>
        have ha := hx a (by simp)
        have hb := hx b (by simp)
        refine ⟨Txt.join "" [a, b], fun h => join_strs (by have := ha.le; have := hb.le; simp [hz0]; omega), ?_⟩
        have e : Txt.join "" [a, b] = a ++ "" ++ b := rfl
        rw [e]
        exact ss_app (n := 1 + 0) (ss_app ha (ss_of (n := 0) (by decide +kernel))) hb
    obtain ⟨st, ej, ss⟩ := hjoin
    have hidx : ∀ (k : Nat) (h : Hh), ∃ c, (97 ≤ c ∧ c ≤ 122) ∧ idxD (.str abc) (.int (((tn : Int) + 3 * (k : Int)) % 26)) h = .ok (.str ⟨#[c]⟩) h := fun k h => by
      obtain ⟨c, hc, e⟩ := idx_str (h := h) (z := abc) (i := ((tn : Int) + 3 * (k : Int)) % 26) (by rw [habc]; decide) (by omega) (by rw [habc]; omega)
      exact ⟨c, sabc.sm c hc, e⟩
    obtain ⟨ys2, h5, ec2, eh5, ly2, py2⟩ := lc_inv (i := 7) (e := xBin addD (xV 4) (xIdx (xV 3) (xBin modD (xBi .int (xCons (xBin addD (xV 6) (xBin mulD (xC (.int 3)) (xV 7))) (xNil))) (xC (.int 26))))) (ρ := [some (.ref 0), some (.int m), some (.lst (menu.map .str)), some (.str "abcdefghijklmnopqrstuvwxyz"), some (.str st), some (.int v), some (.int tn), none]) (ds := (List.range m).map fun (k : Nat) => .int (0 + (k : Int))) (h := o3 :: r)
      (I := fun h => h = o3 :: r) (P := fun d => ∃ x, d = D.str x ∧ SS 3 x ∧ 0 < x.length) (fun d hd h eo => by
        subst eo
        obtain ⟨k, _, rfl⟩ := List.mem_map.mp hd
        obtain ⟨c, hc, e⟩ := hidx k (o3 :: r)
        have s1 : SS 1 ⟨#[c]⟩ := ⟨Nat.le_refl 1, fun c' hc' => by
          have : c' = c := by simpa using hc'
          rw [this]
          exact hc⟩
        have hz : sz (st.length + (⟨#[c]⟩ : Str).length) = true := sz_of (by have := ss.le; have := s1.le; omega)
        have k3 : small64 3 = true := by decide
        refine ⟨.str (st ++ ⟨#[c]⟩), _, ?_, rfl, _, rfl, ss_app ss s1, by rw [str_len, app_list]; simp⟩
        simp [mul_int (.inl k3), mod_int (show (0 : Int) < 26 by decide), e, addD, hz]) rfl
    subst eh5
    obtain ⟨xs2, ex2⟩ : ∃ xs : List Str, ys2 = xs.map .str := by
      have : ∀ d ∈ ys2, ∃ y, d = D.str y := fun d hd => let ⟨c, e, _⟩ := py2 d hd; ⟨_, e⟩
      clear ec2 ly2 py2
      induction ys2 with
      | nil => exact ⟨[], rfl⟩
      | cons d l ih =>
        obtain ⟨y, rfl⟩ := this d (List.mem_cons_self ..)
        obtain ⟨zs, e⟩ := ih fun d hd => this d (List.mem_cons_of_mem _ hd)
        exact ⟨y :: zs, by simp [e]⟩
    subst ex2
    obtain ⟨zs, ez, pz⟩ := sorted_strs (h := o3 :: r) xs2
    refine ⟨zs, o3, ?_, ?_, fun x hx => ?_, B3⟩
    · simp only [Int.zero_add] at ec ec2
      simp only [bNames, head]
      rw [seq_nx (ρ1 := [some (.ref 0), some (.int m), some (.lst (menu.map .str)), none, none, some (.int v), some (.int tn), none]) (h1 := o2 :: r) (by simp [-lc_at, c0]),
        seq_nx (ρ1 := [some (.ref 0), some (.int m), some (.lst (menu.map .str)), none, none, some (.int v), some (.int tn), none]) (h1 := o2 :: r) (by simp [-lc_at, c1]),
        seq_nx (ρ1 := [some (.ref 0), some (.int m), some (.lst (menu.map .str)), some (.str "abcdefghijklmnopqrstuvwxyz"), none, some (.int v), some (.int tn), none]) (h1 := o2 :: r) (by simp),
        seq_nx (ρ1 := [some (.ref 0), some (.int m), some (.lst (menu.map .str)), some (.str "abcdefghijklmnopqrstuvwxyz"), some (.str st), some (.int v), some (.int tn), none]) (h1 := o3 :: r)]
      · simp only [zRet_at, xBi_at, xCons_at, xNil_at]
        rw [lc_rng (by simp) (by omega) ec2]
        simp only [bind_ok, ez, of_ok, endB_rt, endC_cons]
      · simp only [zSet_at, xStr1_at, xC_at, bind_ok]
        rw [lc_rng (m := v.toNat - 1) (by simp; omega) (by omega) ec]
        simp only [bind_ok, ej, of_ok, List.set_cons_succ, List.set_cons_zero]
    · rw [pz.length_eq]
      simpa using ly2
    · obtain ⟨x', e, s⟩ := py2 (.str x) (List.mem_map.mpr ⟨x, pz.mem_iff.mp hx, rfl⟩)
      cases e
      exact ⟨s.1.mono (by decide), s.2⟩
end Bx
namespace Bx
open PySem PySem.Spec PyProof.Rows L2
/-- o.m(..) of a list -/
def xM (f : D → List D → Hh → Res D) (o : Fn) (as : Fl) : Fn := fun ρ h => (o ρ h).bind fun x h1 => match asL h1 x with
  | some _ => (as ρ h1).bind fun ds h2 => f x ds h2
  | none => .bad
def mApp (a : D) (ds : List D) (h : Hh) : Res D := match a, ds with
  | .ref n, [y] => match h[n]? with
    | some (.lst xs) => if decide (xs.length < sizeLine) then .ok .non (h.set n (.lst (xs ++ [y]))) else .bad
    | _ => .bad
  | _, _ => .bad
def mExt (a : D) (ds : List D) (h : Hh) : Res D := match a, ds with
  | .ref n, [b] => match h[n]?, asL h b with
    | some (.lst xs), some ys => if sz (xs.length + ys.length) then .ok .non (h.set n (.lst (xs ++ ys))) else .bad
    | _, _ => .bad
  | _, _ => .bad
def mClr (a : D) (ds : List D) (h : Hh) : Res D := match a, ds with
  | .ref n, [] => match h[n]? with
    | some (.lst xs) => .ok .non (h.set n (.lst []))
    | _ => .bad
  | _, _ => .bad
def mIns (a : D) (ds : List D) (h : Hh) : Res D := match a, ds with
  | .ref n, [.int i, y] => match h[n]? with
    | some (.lst xs) => if decide (xs.length < sizeLine) && decide (0 ≤ i) && decide (i < 2 ^ 63) then .ok .non (h.set n (.lst (xs.take i.toNat ++ [y] ++ xs.drop i.toNat))) else .bad
    | _ => .bad
  | _, _ => .bad
section
variable {g : Gx} {W : WX} {E : XK} {X : Cx} {o e : Expr} {es : List Expr} {fo : Fn} {fs : Fl} {w : Wd} {H : Hp} {h : Hh} {Q : VK}
theorem q_m {f : D → List D → Hh → Res D} {r : V → List V → Hp → VK → Prop} {e0 : Expr} (hp : ∀ {to : TE} {t : TA}, PE X o to → PA X (e :: es) t → PE X e0 (tBM X.K "list" r to t)) (ho : PE X o (tI g W fo)) (ha : PA X (e :: es) (tL g W fs))
    (hr : ∀ E w H h x ds V Vs Q, HR g w h H → RV g w H x V → RVs g w H ds Vs → OKg g (RV g) w H E Q (f x ds h) → r V Vs H Q) : PE X e0 (tI g W (xM f fo fs)) :=
  ⟨fun pins s σ H Q I ⟨w, ρ, h, sr, q⟩ => (hp ho ha).run pins s σ H Q I (tI_go sr q fun V H1 w1 x h1 l sr1 rv o1 => by
    split at o1
    · rename_i e1
      obtain ⟨p, vs, rfl, hq, t⟩ := asL_ok e1 sr1.hr rv
      exact ⟨.inl ⟨rfl, vs, .inl (.inl hq)⟩, tL_go sr1 o1 fun Vs H2 w2 ds h2 l2 sr2 rvs o2 => hr (wAt W σ) w2 H2 h2 x ds _ Vs Q sr2.hr (rv.mono l2) rvs o2⟩
    · exact o1.elim)⟩
theorem q_m0 {f : D → List D → Hh → Res D} {r : V → List V → Hp → VK → Prop} {e0 : Expr} (hp : ∀ {to : TE}, PE X o to → PE X e0 (tBM0 X.K "list" r to)) (ho : PE X o (tI g W fo))
    (hr : ∀ E w H h x ds V Vs Q, HR g w h H → RV g w H x V → RVs g w H ds Vs → OKg g (RV g) w H E Q (f x ds h) → r V Vs H Q) : PE X e0 (tI g W (xM f fo xNil)) :=
  ⟨fun pins s σ H Q I ⟨w, ρ, h, sr, q⟩ => (hp ho).run pins s σ H Q I (tI_go sr q fun V H1 w1 x h1 l sr1 rv o1 => by
    split at o1
    · rename_i e1
      obtain ⟨p, vs, rfl, hq, t⟩ := asL_ok e1 sr1.hr rv
      exact ⟨.inl ⟨rfl, vs, .inl (.inl hq)⟩, hr (wAt W σ) w1 H1 h1 x [] _ [] Q sr1.hr rv .nil o1⟩
    · exact o1.elim)⟩
theorem app_r {x : D} {ds : List D} {V : V} {Vs : List L2.V} (hr : HR g w h H) (rv : RV g w H x V) (rvs : RVs g w H ds Vs) (q : OKg g (RV g) w H E Q (mApp x ds h)) : rAppend V Vs H Q := by
  unfold mApp at q
  split at q
  · rename_i n y
    split at q
    · rename_i xs e1
      split at q
      · rename_i hz
        obtain ⟨z, rfl, rz⟩ := rvs1 rvs
        cases rv with
        | @ref _ p hp =>
          obtain ⟨nF, vs, e2, t⟩ := hr.ob n _ p e1 hp
          exact ⟨p, vs, z, rfl, rfl, e2, by rw [← t.length]; exact of_decide_eq_true hz, OKg.put (x := .non) q hr e1 hp (t.append (.one rz)) .non⟩
      · exact q.elim
    · exact q.elim
  · exact q.elim
theorem ext_r {x : D} {ds : List D} {V : V} {Vs : List L2.V} (hr : HR g w h H) (rv : RV g w H x V) (rvs : RVs g w H ds Vs) (q : OKg g (RV g) w H E Q (mExt x ds h)) : rExtend V Vs H Q := by
  unfold mExt at q
  split at q
  · rename_i n b
    split at q
    · rename_i xs ys e1 e3
      split at q
      · rename_i hz
        obtain ⟨z, rfl, rz⟩ := rvs1 rvs
        obtain ⟨pb, us, rfl, hq, tb⟩ := asL_ok e3 hr rz
        cases rv with
        | @ref _ p hp =>
          obtain ⟨nF, vs, e2, t⟩ := hr.ob n _ p e1 hp
          exact ⟨p, pb, vs, us, rfl, rfl, e2, hq, by rw [← t.length, ← tb.length]; exact sz_le hz, OKg.put (x := .non) q hr e1 hp (t.append tb) .non⟩
      · exact q.elim
    · exact q.elim
  · exact q.elim
theorem clr_r {x : D} {ds : List D} {V : V} {Vs : List L2.V} (hr : HR g w h H) (rv : RV g w H x V) (rvs : RVs g w H ds Vs) (q : OKg g (RV g) w H E Q (mClr x ds h)) : rClear V Vs H Q := by
  unfold mClr at q
  split at q
  · rename_i n
    split at q
    · rename_i xs e1
      cases rvs
      cases rv with
      | @ref _ p hp =>
        obtain ⟨nF, vs, e2, t⟩ := hr.ob n _ p e1 hp
        exact ⟨p, vs, rfl, rfl, e2, OKg.put (x := .non) q hr e1 hp .nil .non⟩
    · exact q.elim
  · exact q.elim
theorem ins_r {x : D} {ds : List D} {V : V} {Vs : List L2.V} (hr : HR g w h H) (rv : RV g w H x V) (rvs : RVs g w H ds Vs) (q : OKg g (RV g) w H E Q (mIns x ds h)) :
    ∃ (l : Addr) (xs : List L2.V) (i : Int) (y : L2.V), V = .ref l ∧ Vs = [.int i, y] ∧ H l = some (.lst xs) ∧ xs.length < sizeLine ∧ 0 ≤ i ∧ i < 2 ^ 63 ∧ Q .non (upd H l (.lst (xs.take i.toNat ++ [y] ++ xs.drop i.toNat))) := by
  unfold mIns at q
  split at q
  · rename_i n i y
    split at q
    · rename_i xs e1
      split at q
      · rename_i hz
        simp only [Bool.and_eq_true, decide_eq_true_eq] at hz
        obtain ⟨z1, z, rfl, ri, rz⟩ := rvs2 rvs
        cases ri
        cases rv with
        | @ref _ p hp =>
          obtain ⟨nF, vs, e2, t⟩ := hr.ob n _ p e1 hp
          exact ⟨p, vs, i, z, rfl, rfl, e2, by rw [← t.length]; exact hz.1.1, hz.1.2, hz.2, OKg.put (x := .non) q hr e1 hp (((t.take _).append (.one rz)).append (t.drop _)) .non⟩
      · exact q.elim
    · exact q.elim
  · exact q.elim
end
/-- what is given is a list with the next number: it is frozen, the number is free again -/
def frzC (h : Hh) (r : Res D) : Res D := match r with
  | .ok d h' => match d with
    | .ref k => if k = h.length ∧ h'.length = h.length + 1 then (match h'[k]? with
      | some (.lst ds) => .ok (.lst ds) (h'.take h.length)
      | _ => .bad) else .bad
    | d => .ok d h'
  | r => r
open Classical in
noncomputable def xFz (f : Fn) : Fn := fun ρ h => match f ρ h with
  | .ok d h' => match d with
    | .ref k => match h'[k]? with
      | some (.lst ds) => if Keep h h' ∧ k = h.length ∧ h'.length = h.length + 1 ∧ Bels h.length ds then .ok (.lst ds) (h'.take h.length) else .bad
      | _ => .bad
    | d => .ok d h'
  | r => r
section
variable {g : Gx} {W : WX} {X : Cx} {e : Expr} {f : Fn}
theorem q_fz (he : PE X e (tI g W f)) : PE X e (tI g W (xFz f)) := ⟨fun pins s σ H Q I ⟨w, ρ, h, sr, o⟩ => he.run pins s σ H Q I ⟨w, ρ, h, sr, by
  unfold xFz at o
  cases q : f ρ h with
  | bad => rw [q] at o; exact o
  | exc c ds h' => rw [q] at o; exact o
  | ok d h' =>
    rw [q] at o
    cases d with
    | ref k =>
      simp only at o
      split at o
      · rename_i ds e1
        split at o
        · rename_i z
          obtain ⟨kp, rfl, hl, hb⟩ := z
          intro w' H' v l hr' rv
          cases rv with
          | @ref _ a ha =>
            obtain ⟨nF, vs, e2, t⟩ := hr'.ob _ _ a e1 ha
            have hc := hr_cut (n := h.length) hr' (keep_ob sr.hr kp)
            have lc := l.cut []
            rw [List.append_nil, sr.hr.len] at lc
            have hm : a ∉ w'.m.take h.length := fun z => by
              obtain ⟨i, hi, e⟩ := List.getElem_of_mem z
              rw [List.length_take] at hi
              have e1 : w'.m[i]? = some a := by
                rw [List.getElem_take] at e
                rw [List.getElem?_eq_getElem (by omega), e]
              obtain ⟨h1, e1'⟩ := List.getElem?_eq_some_iff.mp ha
              obtain ⟨h2, e2'⟩ := List.getElem?_eq_some_iff.mp e1
              have := (List.getElem_inj hr'.nd).mp (e1'.trans e2'.symm)
              omega
            have hP : ∀ x ∈ w'.P, x.1 ≠ a := fun x hx z => (hr'.pr x hx).2.2 (z ▸ List.mem_of_getElem? ha)
            have hc2 := hr_frz (p := a) hc hm ⟨_, e2⟩ hP
            have t2 := RVs.re (w' := ⟨w'.m.take h.length, w'.F, w'.P⟩) (fun k a hk e => take_at hk e) (fun _ z => z) t hb
            exact o _ H' (.ref a) (lc.trans (later_frz hc)) hc2 (.lst e2 (.inl rfl) (t2.mono (later_frz hc)))
        · exact o.elim
      · exact o.elim
    | _ => exact o⟩⟩
theorem fz_new {ρ : Rho} {h : Hh} {ds : List D} (e : f ρ h = .ok (.ref h.length) (h ++ [.lst ds])) (hb : Bels h.length ds) : xFz f ρ h = .ok (.lst ds) h := by
  have e1 : (h ++ [O.lst ds])[h.length]? = some (.lst ds) := by simp
  simp only [xFz, e, e1]
  rw [if_pos ⟨keep_app _ _, rfl, by simp, hb⟩, List.take_left']
  rfl
end
end Bx
namespace Bx
open PySem PySem.Spec PyProof.Rows L2
def lc2L (t : Fg) (c : Ft) (it1 : Fl) (own1 : List Nat) (t1 : Fg) (c1 : Ft) (e : Fn) (ρ : Rho) : List D → Hh → Res (List D)
  | [], h => .ok [] h
  | d :: ds, h => match t d ρ with
    | none => .bad
    | some ρ1 => (c ρ1 h).bind fun k h1 => if k then (it1 ρ1 h1).bind fun ds1 h2 => (lcL t1 c1 e (wipeR ρ1 own1) ds1 h2).bind fun xs h3 => (lc2L t c it1 own1 t1 c1 e ρ ds h3).bind fun ys h4 => .ok (xs ++ ys) h4
        else lc2L t c it1 own1 t1 c1 e ρ ds h1
def szL (r : Res (List D)) : Res (List D) := match r with
  | .ok xs h => if sz xs.length then .ok xs h else .bad
  | r => r
def lcE2 (it : Fl) (own : List Nat) (t : Fg) (c : Ft) (it1 : Fl) (own1 : List Nat) (t1 : Fg) (c1 : Ft) (e : Fn) : Fl := fun ρ h => (it ρ h).bind fun ds h1 => noX (szL (lc2L t c it1 own1 t1 c1 e (wipeR ρ own) ds h1))
def xLc2 (f : List D → Hh → Res D) (it : Fl) (own : List Nat) (t : Fg) (c : Ft) (it1 : Fl) (own1 : List Nat) (t1 : Fg) (c1 : Ft) (e : Fn) : Fn := fun ρ h => (lcE2 it own t c it1 own1 t1 c1 e ρ h).bind f
section
variable {g : Gx} {W : WX} {X : Cx} {w : Wd} {ρ : Rho} {h : Hh} {σ : L2.St} {H : Hp}
/-- the list that is made stands at Da, held, with acc in it -/
structure Acc (g : Gx) (w : Wd) (H : Hp) (Da : Addr) (u : Wd) (h' : Hh) (H' : Hp) (acc : List D) (accV : List V) : Prop where
  lv : Lv w H u H'
  eP : u.P = (Da, .lst accV) :: w.P
  hr : HR g u h' H'
  rv : RVs g u H' acc accV
theorem Acc.go {Da : Addr} {u u' : Wd} {h' h2 : Hh} {H' H2 : Hp} {acc : List D} {accV : List V} (a : Acc g w H Da u h' H' acc accV) (l : Later u H' u' H2) (hr : HR g u' h2 H2) : Acc g w H Da u' h2 H2 acc accV :=
  ⟨a.lv.trans l.toLv, by rw [l.pr, a.eP], hr, a.rv.mono l⟩
theorem Acc.held {Da : Addr} {u : Wd} {h' : Hh} {H' : Hp} {acc : List D} {accV : List V} (a : Acc g w H Da u h' H' acc accV) : H' Da = some (.lst accV) ∧ ¬ u.F Da ∧ Da ∉ u.m := a.hr.pr (Da, .lst accV) (by rw [a.eP]; exact List.mem_cons_self ..)
theorem Acc.push {Da : Addr} {u : Wd} {h' : Hh} {H' : Hp} {acc : List D} {accV : List V} {y : D} {vy : V} (a : Acc g w H Da u h' H' acc accV) (nP : ∀ x ∈ w.P, x.1 ≠ Da) (ry : RV g u H' y vy) :
    ∃ u2, Acc g w H Da u2 h' (upd H' Da (.lst (accV ++ [vy]))) (acc ++ [y]) (accV ++ [vy]) ∧ Lv u H' u2 (upd H' Da (.lst (accV ++ [vy]))) := by
  obtain ⟨q1, q2, q3⟩ := a.held
  have hu : u = (⟨u.m, u.F, w.P⟩ : Wd).hold Da (.lst accV) := by
    have := a.eP
    cases u with
    | mk m F P => simp only at this; subst this; rfl
  have hr := a.hr
  rw [hu] at hr
  obtain ⟨r1, r2⟩ := hr_rehold hr (by rw [q1]; trivial) nP (.lst (accV ++ [vy]))
  have l5 : Lv u H' ((⟨u.m, u.F, w.P⟩ : Wd).hold Da (.lst (accV ++ [vy]))) (upd H' Da (.lst (accV ++ [vy]))) :=
    (lv_of (w := u) (w' := ⟨u.m, u.F, w.P⟩) rfl fun _ z => z).trans (r2.trans (lv_of rfl fun _ z => z))
  exact ⟨_, ⟨a.lv.trans l5, rfl, r1, (a.rv.append (.one ry)).mono0 l5⟩, l5⟩
theorem lc2_run {is own is1 own1 : List Nat} {t t1 : Fg} {c c1 : Ft} {it1 : Fl} {e : Fn} {ds es : List D} {h1 h2 : Hh} {J : It} {Qd : V → Hp → Prop} (sr : SR g w ρ h1 σ H) (jo : JOk g J w H ds) (hi : ∀ i ∈ is, i ∈ own) (hi1 : ∀ i ∈ is1, i ∈ own1)
    (ee : lc2L t c it1 own1 t1 c1 e (wipeR ρ own) ds h1 = .ok es h2) (hz : sz es.length = true)
    (fin : ∀ w2 H2 p vs, Later w H w2 H2 → HR g w2 h2 H2 → H2 p = some (.lst vs) → RVs g w2 H2 es vs → ¬ w2.F p → p ∉ w2.m → (∀ x ∈ w2.P, x.1 ≠ p) → Qd (.ref p) H2) :
    ∀ Da, H Da = none → ∃ Wv : Nat → Nat → Hp → Prop, (∃ m, Wv 0 m (upd H Da (.lst []))) ∧ ∀ i m H', Wv i m H' →
      (J.stop i H' ∧ Qd (.ref Da) H') ∨ (J.go i H' ∧ ∃ Nx : Hp → Prop, (∀ H'', Nx H'' → ∃ m', m' < m ∧ Wv (i + 1) m' H'') ∧ ∀ x H'', J.yld i H' x H'' → tG g is t x (wipe σ own) H'' fun σ2 H2 => wipe σ2 own = wipe σ own ∧ tT g EF c σ2 H2 fun b H3 =>
        if b = true then tIt g EF it1 σ2 H3 fun J1 H4 => ∃ W1 : Nat → Nat → Hp → Prop, (∃ m, W1 0 m H4) ∧ ∀ j k H, W1 j k H →
          (J1.stop j H ∧ Nx H) ∨ (J1.go j H ∧ ∃ Nx1 : Hp → Prop, (∀ H', Nx1 H' → ∃ k', k' < k ∧ W1 (j + 1) k' H') ∧ ∀ x H', J1.yld j H x H' → tG g is1 t1 x (wipe σ2 own1) H' fun σ3 H5 => wipe σ3 own1 = wipe σ2 own1 ∧ tT g EF c1 σ3 H5 fun b H6 =>
            if b = true then tI g EF e σ3 H6 fun y H7 => ∃ acc, H7 Da = some (.lst acc) ∧ acc.length < sizeLine ∧ Nx1 (upd H7 Da (.lst (acc ++ [y]))) else Nx1 H6)
        else Nx H3) := by
  intro Da hDa
  have nP := sr.hr.np hDa
  have hzl := sz_le hz
  refine ⟨fun i m H' => m = ds.length - i ∧ i ≤ ds.length ∧ ∃ (u : Wd) (h' : Hh) (acc es' : List D) (accV : List V), Acc g w H Da u h' H' acc accV ∧ lc2L t c it1 own1 t1 c1 e (wipeR ρ own) (ds.drop i) h' = .ok es' h2 ∧ acc ++ es' = es,
    ⟨ds.length, rfl, Nat.zero_le _, w.hold Da (.lst []), h1, [], es, [], ⟨(later_new sr.hr hDa).toLv.trans (lv_of rfl fun _ z => z), rfl, hr_hold sr.hr hDa, .nil⟩, ee, rfl⟩, ?_⟩
  rintro i m H' ⟨rfl, hi', u, h', acc, es', accV, A, el, eapp⟩
  obtain ⟨jg, js⟩ := jo u H' h' A.lv A.hr i
  cases hd : ds[i]? with
  | none =>
    have hn := List.getElem?_eq_none_iff.mp hd
    rw [List.drop_of_length_le hn] at el
    simp only [lc2L, Res.ok.injEq] at el
    obtain ⟨rfl, rfl⟩ := el
    rw [List.append_nil] at eapp
    subst eapp
    refine .inl ⟨js hd, ?_⟩
    have lw : Lv u H' ⟨u.m, u.F, w.P⟩ H' := lv_of rfl fun _ z => z
    refine fin ⟨u.m, u.F, w.P⟩ H' Da accV ⟨A.lv.trans lw, rfl⟩ ?_ A.held.1 (A.rv.mono0 lw) A.held.2.1 A.held.2.2 nP
    exact hr_P A.hr rfl rfl fun x hx => A.hr.pr x (by rw [A.eP]; exact List.mem_cons_of_mem _ hx)
  | some d =>
    obtain ⟨hlt, hd'⟩ := List.getElem?_eq_some_iff.mp hd
    obtain ⟨go, yl⟩ := jg d hd
    rw [List.drop_eq_getElem_cons hlt, hd'] at el
    unfold lc2L at el
    split at el
    · cases el
    · rename_i ρ1 et
      obtain ⟨k, h3, ec, el⟩ := bind_inv el
      have next : ∀ {H4 : Hp} {u4 : Wd} {h4 : Hh} {acc' es'' : List D} {accV' : List V}, Acc g w H Da u4 h4 H4 acc' accV' → lc2L t c it1 own1 t1 c1 e (wipeR ρ own) (ds.drop (i + 1)) h4 = .ok es'' h2 → acc' ++ es'' = es →
          ∃ m', m' < ds.length - i ∧ m' = ds.length - (i + 1) ∧ i + 1 ≤ ds.length ∧ ∃ (u : Wd) (h' : Hh) (acc es' : List D) (accV : List V), Acc g w H Da u h' H4 acc accV ∧ lc2L t c it1 own1 t1 c1 e (wipeR ρ own) (ds.drop (i + 1)) h' = .ok es' h2 ∧ acc ++ es' = es :=
        fun a1 a2 a3 => ⟨ds.length - (i + 1), by omega, rfl, hlt, _, _, _, _, _, a1, a2, a3⟩
      refine .inr ⟨go, _, fun H'' z => z, fun x H'' y => ?_⟩
      obtain ⟨u2, l2, hr2, rv⟩ := yl x H'' y
      have A2 := A.go l2 hr2
      have sr0 := sr.wipes own
      have sr2 : SR g u2 (wipeR ρ own) h' (wipe σ own) H'' := ⟨hr2, sr0.rs.mono0 A2.lv, sr0.ln⟩
      refine ⟨u2, _, h', d, ρ1, sr2, rv, et, fun σ' sr' hw => ⟨hw own hi |>.trans ?_, u2, ρ1, h', sr', ?_⟩⟩
      · exact wipe_twice σ own
      · rw [ec]
        intro u3 H3 b l3 hr3 rb
        subst rb
        have sr3 := sr'.step l3 hr3
        have A3 := A2.go l3 hr3
        cases k with
        | false =>
          rw [if_neg Bool.false_ne_true]
          rw [if_neg Bool.false_ne_true] at el
          exact next A3 el eapp
        | true =>
          rw [if_pos rfl]
          rw [if_pos rfl] at el
          obtain ⟨ds1, h4, ei, el⟩ := bind_inv el
          obtain ⟨xs, h5, ex, el⟩ := bind_inv el
          obtain ⟨ys, h6, eys, el⟩ := bind_inv el
          simp only [Res.ok.injEq] at el
          obtain ⟨rfl, rfl⟩ := el
          refine ⟨u3, ρ1, h3, sr3, ?_⟩
          rw [ei]
          intro u4 H4 J1 l4 hr4 jo1
          have A4 := A3.go l4 hr4
          have sr4 := sr3.step l4 hr4
          refine ⟨fun j k H5 => k = ds1.length - j ∧ j ≤ ds1.length ∧ ∃ (u5 : Wd) (h' : Hh) (acc1 xs' : List D) (accV1 : List V), Lv u4 H4 u5 H5 ∧ Acc g w H Da u5 h' H5 acc1 accV1 ∧ lcL t1 c1 e (wipeR ρ1 own1) (ds1.drop j) h' = .ok xs' h5 ∧ acc1 ++ (xs' ++ ys) = es,
            ⟨ds1.length, rfl, Nat.zero_le _, u4, h4, acc, xs, accV, (Later.refl _ _).toLv, A4, ex, eapp⟩, ?_⟩
          rintro j k H5 ⟨rfl, hj, u5, h5', acc1, xs', accV1, lv5, A5, el1, eapp1⟩
          obtain ⟨jg1, js1⟩ := jo1 u5 H5 h5' lv5 A5.hr j
          cases hd1 : ds1[j]? with
          | none =>
            have hn := List.getElem?_eq_none_iff.mp hd1
            rw [List.drop_of_length_le hn] at el1
            simp only [lcL, Res.ok.injEq] at el1
            obtain ⟨rfl, rfl⟩ := el1
            exact .inl ⟨js1 hd1, next A5 eys (by simpa using eapp1)⟩
          | some d1 =>
            obtain ⟨hlt1, hd1'⟩ := List.getElem?_eq_some_iff.mp hd1
            obtain ⟨go1, yl1⟩ := jg1 d1 hd1
            rw [List.drop_eq_getElem_cons hlt1, hd1'] at el1
            unfold lcL at el1
            split at el1
            · cases el1
            · rename_i ρ2 et1
              obtain ⟨k1, h6', ec1, el1⟩ := bind_inv el1
              have next1 : ∀ {H7 : Hp} {u7 : Wd} {h7 : Hh} {acc' xs'' : List D} {accV' : List V}, Lv u4 H4 u7 H7 → Acc g w H Da u7 h7 H7 acc' accV' → lcL t1 c1 e (wipeR ρ1 own1) (ds1.drop (j + 1)) h7 = .ok xs'' h5 → acc' ++ (xs'' ++ ys) = es →
                  ∃ k', k' < ds1.length - j ∧ k' = ds1.length - (j + 1) ∧ j + 1 ≤ ds1.length ∧ ∃ (u5 : Wd) (h' : Hh) (acc1 xs' : List D) (accV1 : List V), Lv u4 H4 u5 H7 ∧ Acc g w H Da u5 h' H7 acc1 accV1 ∧ lcL t1 c1 e (wipeR ρ1 own1) (ds1.drop (j + 1)) h' = .ok xs' h5 ∧ acc1 ++ (xs' ++ ys) = es :=
                fun a0 a1 a2 a3 => ⟨ds1.length - (j + 1), by omega, rfl, hlt1, _, _, _, _, _, a0, a1, a2, a3⟩
              refine .inr ⟨go1, _, fun H'' z => z, fun x H6 y => ?_⟩
              obtain ⟨u6, l6, hr6, rv6⟩ := yl1 x H6 y
              have A6 := A5.go l6 hr6
              have lv6 := lv5.trans l6.toLv
              have sw := sr4.wipes own1
              have sr6 : SR g u6 (wipeR ρ1 own1) h5' (wipe σ' own1) H6 := ⟨hr6, sw.rs.mono0 lv6, sw.ln⟩
              refine ⟨u6, _, h5', d1, ρ2, sr6, rv6, et1, fun σ3 sr3' hw1 => ⟨hw1 own1 hi1 |>.trans ?_, u6, ρ2, h5', sr3', ?_⟩⟩
              · exact wipe_twice σ' own1
              · rw [ec1]
                intro u7 H7 b l7 hr7 rb
                subst rb
                have sr7 := sr3'.step l7 hr7
                have A7 := A6.go l7 hr7
                cases k1 with
                | false =>
                  rw [if_neg Bool.false_ne_true]
                  rw [if_neg Bool.false_ne_true] at el1
                  exact next1 (lv6.trans l7.toLv) A7 el1 eapp1
                | true =>
                  rw [if_pos rfl]
                  rw [if_pos rfl] at el1
                  obtain ⟨yv, h8, ey, el1⟩ := bind_inv el1
                  obtain ⟨rest, h9, er, el1⟩ := bind_inv el1
                  simp only [Res.ok.injEq] at el1
                  obtain ⟨rfl, rfl⟩ := el1
                  refine ⟨u7, ρ2, h6', sr7, ?_⟩
                  rw [ey]
                  intro u8 H8 vy l8 hr8 rvy
                  have A8 := A7.go l8 hr8
                  obtain ⟨u9, A9, hh⟩ := A8.push nP rvy
                  refine ⟨accV1, A8.held.1, ?_, ?_⟩
                  · rw [← A8.rv.length]
                    have := congrArg List.length eapp1
                    simp only [List.length_append, List.length_cons] at this
                    omega
                  · exact next1 ((lv6.trans l7.toLv).trans (l8.toLv.trans hh)) A9 er (by rw [List.append_assoc]; exact eapp1)
theorem lc2_rd {f : List D → Hh → Res D} (hf : ∀ E, Hands g E f) {fi it1 : Fl} {is own is1 own1 : List Nat} {t t1 : Fg} {c c1 : Ft} {e : Fn} (hi : ∀ i ∈ is, i ∈ own) (hi1 : ∀ i ∈ is1, i ∈ own1) {Q : VK} (hq : tI g W (xLc2 f fi own t c it1 own1 t1 c1 e) σ H Q) :
    tLc2 (tIt g W fi) (tG g is t) (tT g EF c) (tIt g EF it1) (tG g is1 t1) (tT g EF c1) (tI g EF e) own own1 σ H Q := by
  obtain ⟨w, ρ, h, sr, o⟩ := hq
  unfold xLc2 lcE2 at o
  rw [bind_assoc] at o
  refine ⟨w, ρ, h, sr, (OKg.bind (R := RJ g) o).imp fun J H1 ⟨w1, ds, h1, l, hr1, jo, o1⟩ => ?_⟩
  cases q : noX (szL (lc2L t c it1 own1 t1 c1 e (wipeR ρ own) ds h1)) with
  | bad => rw [q] at o1; exact o1.elim
  | exc c0 d0 h0 =>
    exfalso
    cases q' : szL (lc2L t c it1 own1 t1 c1 e (wipeR ρ own) ds h1) <;> (rw [q'] at q; cases q)
  | ok es h2 =>
    rw [q] at o1
    have q2 := noX_inv q
    cases q3 : lc2L t c it1 own1 t1 c1 e (wipeR ρ own) ds h1 with
    | bad => rw [q3] at q2; cases q2
    | exc c0 d0 h0 => rw [q3] at q2; cases q2
    | ok es' h2' =>
      rw [q3] at q2
      simp only [szL] at q2
      split at q2
      · rename_i hz
        cases q2
        exact lc2_run (sr.step l hr1) jo hi hi1 q3 hz fun w2 H2 p vs l2 hr2 hp rv nF nm nP => hf (wAt W σ) w1 w2 H1 H2 h2 p vs es Q o1 l2 hr2 hp rv nF nm nP
      · cases q2
variable {elt tg iter tg1 iter1 : Expr} {ifs ifs1 : List Expr} {scope : Scope} {own : List (Str × Nat)} {vs1 is is1 : List Nat} {pos p p2 : Pos} {fi it1 : Fl} {t t1 : Fg} {c c1 : Ft} {e : Fn} {f : List D → Hh → Res D}
theorem w_lc2 (hf : ∀ E, Hands g E f) (xo : XO g X) (ok : BlkOk X.N X.env.scope scope own) (hv : ∀ i ∈ vs1, i ∈ own.map (·.2)) (hi : PI X tg iter (tIt g W fi))
    (hg : ∀ (s : Shared) (H : Hp) (C : Addr) (cl : List (Str × Addr)) (fp : List Addr), PG (X.blk s H scope (compEnvC scope cl C X.env) fp) tg (tG g is t)) (ht : ∀ (s : Shared) (H : Hp) (C : Addr) (cl : List (Str × Addr)) (fp : List Addr), PTs (X.blk s H scope (compEnvC scope cl C X.env) fp) ifs (tT g EF c))
    (hi1 : ∀ (s : Shared) (H : Hp) (C : Addr) (cl : List (Str × Addr)) (fp : List Addr), PI (X.blk s H scope (compEnvC scope cl C X.env) fp) tg1 iter1 (tIt g EF it1))
    (hg1 : ∀ (s : Shared) (H : Hp) (C : Addr) (cl : List (Str × Addr)) (fp : List Addr), PG (X.blk s H scope (compEnvC scope cl C X.env) fp) tg1 (tG g is1 t1)) (ht1 : ∀ (s : Shared) (H : Hp) (C : Addr) (cl : List (Str × Addr)) (fp : List Addr), PTs (X.blk s H scope (compEnvC scope cl C X.env) fp) ifs1 (tT g EF c1))
    (he : ∀ (s : Shared) (H : Hp) (C : Addr) (cl : List (Str × Addr)) (fp : List Addr), PE (X.blk s H scope (compEnvC scope cl C X.env) fp) elt (tI g EF e))
    (hsub : ∀ i ∈ is, i ∈ own.map (·.2) := by decide) (hsub1 : ∀ i ∈ is1, i ∈ vs1 := by decide) (hs : ∀ x, foldedSetIterable iter X.env x = pure x := by intro _; rfl) (hs1 : ∀ env x, foldedSetIterable iter1 env x = pure x := by intro _ _; rfl) :
    PE X (.ListComp elt [⟨tg, iter, ifs, 0⟩, ⟨tg1, iter1, ifs1, 0⟩] scope pos) (tI g W (xLc2 f fi (own.map (·.2)) t c it1 vs1 t1 c1 e)) :=
  ⟨fun pins s σ H Q I h => (pe_lc2 xo.calm xo.nd hi ok hv hg ht hi1 hg1 ht1 he hs hs1).run pins s σ H Q I (lc2_rd hf hsub hsub1 h)⟩
theorem w_setLc2 {i : Nat} {x : Str} (hf : ∀ E, Hands g E f) (xo : XO g X) (hy : X.N[i]? = some x) (hyl : X.env.scope.names.lookup x = some .local)
    (hsw : swapsWith (.ListComp elt [⟨tg, iter, ifs, 0⟩, ⟨tg1, iter1, ifs1, 0⟩] scope p) (some (.Name x p2)) pos.line X.env = pure true) (ok : BlkOk X.N X.env.scope scope own) (hv : ∀ i ∈ vs1, i ∈ own.map (·.2)) (hi : PI X tg iter (tIt g W fi))
    (hg : ∀ (s : Shared) (H : Hp) (C : Addr) (cl : List (Str × Addr)) (fp : List Addr), PG (X.blk s H scope (compEnvC scope cl C X.env) fp) tg (tG g is t)) (ht : ∀ (s : Shared) (H : Hp) (C : Addr) (cl : List (Str × Addr)) (fp : List Addr), PTs (X.blk s H scope (compEnvC scope cl C X.env) fp) ifs (tT g EF c))
    (hi1 : ∀ (s : Shared) (H : Hp) (C : Addr) (cl : List (Str × Addr)) (fp : List Addr), PI (X.blk s H scope (compEnvC scope cl C X.env) fp) tg1 iter1 (tIt g EF it1))
    (hg1 : ∀ (s : Shared) (H : Hp) (C : Addr) (cl : List (Str × Addr)) (fp : List Addr), PG (X.blk s H scope (compEnvC scope cl C X.env) fp) tg1 (tG g is1 t1)) (ht1 : ∀ (s : Shared) (H : Hp) (C : Addr) (cl : List (Str × Addr)) (fp : List Addr), PTs (X.blk s H scope (compEnvC scope cl C X.env) fp) ifs1 (tT g EF c1))
    (he : ∀ (s : Shared) (H : Hp) (C : Addr) (cl : List (Str × Addr)) (fp : List Addr), PE (X.blk s H scope (compEnvC scope cl C X.env) fp) elt (tI g EF e))
    (hsub : ∀ i ∈ is, i ∈ own.map (·.2) := by decide) (hsub1 : ∀ i ∈ is1, i ∈ vs1 := by decide) (hs : ∀ x, foldedSetIterable iter X.env x = pure x := by intro _; rfl) (hs1 : ∀ env x, foldedSetIterable iter1 env x = pure x := by intro _ _; rfl) :
    PS X (.Assign [.Name x p2] (.ListComp elt [⟨tg, iter, ifs, 0⟩, ⟨tg1, iter1, ifs1, 0⟩] scope p) pos) (tS g W (zSet i (xLc2 f fi (own.map (·.2)) t c it1 vs1 t1 c1 e))) :=
  q_set (ps_setLc2 xo.calm xo.nd hy hyl hsw hi ok hv hg ht hi1 hg1 ht1 he hs hs1) fun _ _ _ h => lc2_rd hf hsub hsub1 h
end
end Bx
namespace Bx
open PySem PySem.Spec PyProof.Rows L2
def dcL (t : Fg) (c : Ft) (ek ev : Fn) (ρ : Rho) : List D → List (Key × D) → Hh → Res (List (Key × D))
  | [], acc, h => .ok acc h
  | d :: ds, acc, h => match t d ρ with
    | none => .bad
    | some ρ1 => (c ρ1 h).bind fun b h1 => if b then (ek ρ1 h1).bind fun kd h2 => (ev ρ1 h2).bind fun v h3 => match toK kd with
        | some k => dcL t c ek ev ρ ds (dput acc k v) h3
        | none => .bad
      else dcL t c ek ev ρ ds acc h1
def xDc (it : Fl) (own : List Nat) (t : Fg) (c : Ft) (ek ev : Fn) : Fn := fun ρ h => (it ρ h).bind fun ds h1 => if sz ds.length then (noX (dcL t c ek ev (wipeR ρ own) ds [] h1)).bind fun kds h2 => .ok (.dct kds) h2 else .bad
section
variable {g : Gx} {W : WX} {X : Cx} {w : Wd} {ρ : Rho} {h : Hh} {σ : L2.St} {H : Hp}
/-- a thing that is no list, tuple .. of the world's is changed -/
theorem later_upd {p : Addr} {o : HO} (hF : ¬ w.F p) (hm : Mut (H p)) : Later w H w (upd H p o) :=
  ⟨⟨fun _ z => z, fun b u f r => Rd.upd r (fun z => hF (z ▸ f)), fun b u f r => by rw [upd_ne (show b ≠ p from fun z => hF (z ▸ f))]; exact r, fun b o u r => by rw [upd_ne (fun z => by subst z; rw [r] at hm; exact hm)]; exact r, fun b o' _ f r => by rw [upd_ne (show b ≠ p from fun z => hF (z ▸ f))]; exact r, fun b xs r => by rw [upd_ne (fun z => by subst z; rw [r] at hm; exact hm)]; exact r, ⟨[], by simp⟩⟩, rfl⟩
theorem hr_upd {p : Addr} {o : HO} (q : HR g w h H) (hF : ¬ w.F p) (hm : Mut (H p)) (hn : p ∉ w.m) (hP : ∀ x ∈ w.P, x.1 ≠ p) : HR g w h (upd H p o) := by
  refine ⟨q.len, q.nd, fun b z => ?_, fun i o1 b e1 e2 => ?_, fun x hx => ?_⟩
  · obtain ⟨u, e⟩ := q.fz b z
    exact ⟨u, by rw [upd_ne (show b ≠ p from fun y => hF (y ▸ z))]; exact e⟩
  · have hb : b ≠ p := fun z => hn (z ▸ List.mem_of_getElem? e2)
    exact (q.ob i o1 b e1 e2).mono (later_upd hF hm) Iff.rfl (.inl (upd_ne hb))
  · obtain ⟨k1, k2, k3⟩ := q.pr x hx
    exact ⟨by rw [upd_ne (hP x hx)]; exact k1, k2, k3⟩
structure AccD (g : Gx) (w : Wd) (H : Hp) (Da : Addr) (u : Wd) (h' : Hh) (H' : Hp) (acc : List (Key × D)) (accV : List (Key × V)) : Prop where
  lv : Lv w H u H'
  eP : u.P = (Da, .dK accV) :: w.P
  hr : HR g u h' H'
  ke : accV.map (·.1) = acc.map (·.1)
  rv : RVs g u H' (acc.map (·.2)) (accV.map (·.2))
theorem AccD.go {Da : Addr} {u u' : Wd} {h' h2 : Hh} {H' H2 : Hp} {acc : List (Key × D)} {accV : List (Key × V)} (a : AccD g w H Da u h' H' acc accV) (l : Later u H' u' H2) (hr : HR g u' h2 H2) : AccD g w H Da u' h2 H2 acc accV :=
  ⟨a.lv.trans l.toLv, by rw [l.pr, a.eP], hr, a.ke, a.rv.mono l⟩
theorem AccD.held {Da : Addr} {u : Wd} {h' : Hh} {H' : Hp} {acc : List (Key × D)} {accV : List (Key × V)} (a : AccD g w H Da u h' H' acc accV) : H' Da = some (.dK accV) ∧ ¬ u.F Da ∧ Da ∉ u.m := a.hr.pr (Da, .dK accV) (by rw [a.eP]; exact List.mem_cons_self ..)
theorem AccD.push {Da : Addr} {u : Wd} {h' : Hh} {H' : Hp} {acc : List (Key × D)} {accV : List (Key × V)} {y : D} {vy : V} (a : AccD g w H Da u h' H' acc accV) (nP : ∀ x ∈ w.P, x.1 ≠ Da) (k : Key) (ry : RV g u H' y vy) :
    ∃ u2, AccD g w H Da u2 h' (upd H' Da (.dK (putK accV k vy))) (dput acc k y) (putK accV k vy) := by
  obtain ⟨q1, q2, q3⟩ := a.held
  have hu : u = (⟨u.m, u.F, w.P⟩ : Wd).hold Da (.dK accV) := by
    have := a.eP
    cases u with
    | mk m F P => simp only at this; subst this; rfl
  have hr := a.hr
  rw [hu] at hr
  obtain ⟨r1, r2⟩ := hr_rehold hr (by rw [q1]; trivial) nP (.dK (putK accV k vy))
  have l5 : Lv u H' ((⟨u.m, u.F, w.P⟩ : Wd).hold Da (.dK (putK accV k vy))) (upd H' Da (.dK (putK accV k vy))) :=
    (lv_of (w := u) (w' := ⟨u.m, u.F, w.P⟩) rfl fun _ z => z).trans (r2.trans (lv_of rfl fun _ z => z))
  obtain ⟨k1, k2⟩ := dput_ok (k := k) a.ke a.rv ry
  exact ⟨_, a.lv.trans l5, rfl, r1, k1, k2.mono0 l5⟩
theorem dput_len (kds : List (Key × D)) (k : Key) (d : D) : (dput kds k d).length ≤ kds.length + 1 := by
  unfold dput
  split
  · rw [List.length_map]; omega
  · rw [List.length_append]; simp
theorem dc_run {is own : List Nat} {t : Fg} {c : Ft} {ek ev : Fn} {ds : List D} {kds : List (Key × D)} {h1 h2 : Hh} {J : It} {Qd : V → Hp → Prop} (sr : SR g w ρ h1 σ H) (jo : JOk g J w H ds) (hz : sz ds.length = true) (hi : ∀ i ∈ is, i ∈ own)
    (ee : dcL t c ek ev (wipeR ρ own) ds [] h1 = .ok kds h2)
    (fin : ∀ w2 H2 p kvs, Later w H w2 H2 → HR g w2 h2 H2 → H2 p = some (.dK kvs) → kvs.map (·.1) = kds.map (·.1) → RVs g w2 H2 (kds.map (·.2)) (kvs.map (·.2)) → ¬ w2.F p → p ∉ w2.m → (∀ x ∈ w2.P, x.1 ≠ p) → Qd (.ref p) H2) :
    ∀ Da, H Da = none → ∃ Wv : Nat → Nat → Hp → Prop, (∃ m, Wv 0 m (upd H Da (.dK []))) ∧ ∀ i m H', Wv i m H' →
      (J.stop i H' ∧ Qd (.ref Da) H') ∨ (J.go i H' ∧ ∃ Nx : Hp → Prop, (∀ H'', Nx H'' → ∃ m', m' < m ∧ Wv (i + 1) m' H'') ∧ ∀ x H'', J.yld i H' x H'' → tG g is t x (wipe σ own) H'' fun σ2 H2 => wipe σ2 own = wipe σ own ∧ tT g EF c σ2 H2 fun b H3 =>
        if b = true then tI g EF ek σ2 H3 fun y H4 => tI g EF ev σ2 H4 fun z H5 => ∃ kvs k, y = kV k ∧ H5 Da = some (.dK kvs) ∧ kvs.length < sizeLine ∧ Nx (upd H5 Da (.dK (putK kvs k z))) else Nx H3) := by
  intro Da hDa
  have nP := sr.hr.np hDa
  refine ⟨fun i m H' => m = ds.length - i ∧ i ≤ ds.length ∧ ∃ (u : Wd) (h' : Hh) (acc : List (Key × D)) (accV : List (Key × V)), AccD g w H Da u h' H' acc accV ∧ acc.length ≤ i ∧ dcL t c ek ev (wipeR ρ own) (ds.drop i) acc h' = .ok kds h2,
    ⟨ds.length, rfl, Nat.zero_le _, w.hold Da (.dK []), h1, [], [], ⟨(later_new sr.hr hDa).toLv.trans (lv_of rfl fun _ z => z), rfl, hr_hold sr.hr hDa, rfl, .nil⟩, Nat.le_refl _, ee⟩, ?_⟩
  rintro i m H' ⟨rfl, hi', u, h', acc, accV, A, hlen, el⟩
  obtain ⟨jg, js⟩ := jo u H' h' A.lv A.hr i
  cases hd : ds[i]? with
  | none =>
    have hn := List.getElem?_eq_none_iff.mp hd
    rw [List.drop_of_length_le hn] at el
    simp only [dcL, Res.ok.injEq] at el
    obtain ⟨rfl, rfl⟩ := el
    refine .inl ⟨js hd, ?_⟩
    have lw : Lv u H' ⟨u.m, u.F, w.P⟩ H' := lv_of rfl fun _ z => z
    refine fin ⟨u.m, u.F, w.P⟩ H' Da accV ⟨A.lv.trans lw, rfl⟩ ?_ A.held.1 A.ke (A.rv.mono0 lw) A.held.2.1 A.held.2.2 nP
    exact hr_P A.hr rfl rfl fun x hx => A.hr.pr x (by rw [A.eP]; exact List.mem_cons_of_mem _ hx)
  | some d =>
    obtain ⟨hlt, hd'⟩ := List.getElem?_eq_some_iff.mp hd
    obtain ⟨go, yl⟩ := jg d hd
    rw [List.drop_eq_getElem_cons hlt, hd'] at el
    unfold dcL at el
    split at el
    · cases el
    · rename_i ρ1 et
      obtain ⟨k, h3, ec, el⟩ := bind_inv el
      have next : ∀ {H4 : Hp} {u4 : Wd} {h4 : Hh} {acc' : List (Key × D)} {accV' : List (Key × V)}, AccD g w H Da u4 h4 H4 acc' accV' → acc'.length ≤ i + 1 → dcL t c ek ev (wipeR ρ own) (ds.drop (i + 1)) acc' h4 = .ok kds h2 →
          ∃ m', m' < ds.length - i ∧ m' = ds.length - (i + 1) ∧ i + 1 ≤ ds.length ∧ ∃ (u : Wd) (h' : Hh) (acc : List (Key × D)) (accV : List (Key × V)), AccD g w H Da u h' H4 acc accV ∧ acc.length ≤ i + 1 ∧ dcL t c ek ev (wipeR ρ own) (ds.drop (i + 1)) acc h' = .ok kds h2 :=
        fun a1 a2 a3 => ⟨ds.length - (i + 1), by omega, rfl, hlt, _, _, _, _, a1, a2, a3⟩
      refine .inr ⟨go, _, fun H'' z => z, fun x H'' y => ?_⟩
      obtain ⟨u2, l2, hr2, rv⟩ := yl x H'' y
      have A2 := A.go l2 hr2
      have sr0 := sr.wipes own
      have sr2 : SR g u2 (wipeR ρ own) h' (wipe σ own) H'' := ⟨hr2, sr0.rs.mono0 A2.lv, sr0.ln⟩
      refine ⟨u2, _, h', d, ρ1, sr2, rv, et, fun σ' sr' hw => ⟨hw own hi |>.trans ?_, u2, ρ1, h', sr', ?_⟩⟩
      · exact wipe_twice σ own
      · rw [ec]
        intro u3 H3 b l3 hr3 rb
        subst rb
        have sr3 := sr'.step l3 hr3
        have A3 := A2.go l3 hr3
        cases k with
        | false =>
          rw [if_neg Bool.false_ne_true]
          rw [if_neg Bool.false_ne_true] at el
          exact next A3 (by omega) el
        | true =>
          rw [if_pos rfl]
          rw [if_pos rfl] at el
          obtain ⟨kd, h4, ek1, el⟩ := bind_inv el
          obtain ⟨v, h5, ev1, el⟩ := bind_inv el
          split at el
          · rename_i kk e5
            refine ⟨u3, ρ1, h3, sr3, ?_⟩
            rw [ek1]
            intro u4 H4 vk l4 hr4 rvk
            have sr4 := sr3.step l4 hr4
            have A4 := A3.go l4 hr4
            refine ⟨u4, ρ1, h4, sr4, ?_⟩
            rw [ev1]
            intro u5 H5 vv l5 hr5 rvv
            have A5 := A4.go l5 hr5
            obtain ⟨u6, A6⟩ := A5.push nP kk rvv
            refine ⟨accV, kk, toK_ok e5 rvk, A5.held.1, ?_, next A6 (by have := dput_len acc kk v; omega) el⟩
            have e6 := congrArg List.length A5.ke
            simp only [List.length_map] at e6
            have := sz_le hz
            omega
          · cases el
theorem dc_rd {fi : Fl} {is own : List Nat} {t : Fg} {c : Ft} {ek ev : Fn} (hi : ∀ i ∈ is, i ∈ own) {Q : VK} (hq : tI g W (xDc fi own t c ek ev) σ H Q) :
    tLockN (tDc (tIt g W fi) (tG g is t) (tT g EF c) (tI g EF ek) (tI g EF ev) own) σ H Q := by
  obtain ⟨w, ρ, h, sr, o⟩ := hq
  refine ⟨w, ρ, h, sr, (OKg.bind (R := RJ g) o).imp fun J H1 ⟨w1, ds, h1, l, hr1, jo, o1⟩ => ?_⟩
  split at o1
  · rename_i hz
    cases q : noX (dcL t c ek ev (wipeR ρ own) ds [] h1) with
    | bad => rw [q] at o1; exact o1.elim
    | exc c0 d0 h0 =>
      exfalso
      cases q' : dcL t c ek ev (wipeR ρ own) ds [] h1 <;> (rw [q'] at q; cases q)
    | ok kds h2 =>
      rw [q] at o1
      have o1 : OKg g (RV g) w1 H1 (wAt W σ) Q (.ok (.dct kds) h2) := o1
      exact dc_run (Qd := fun v H' => ∃ d u, v = V.ref d ∧ H' d = some u ∧ Mut (some u) ∧ ∀ (ob : Obj), Q v (upd H' d (HO.frz ob u))) (sr.step l hr1) jo hz hi (noX_inv q) fun w2 H2 p kvs l2 hr2 hp ke rv nF nm nP => ⟨p, _, rfl, hp, trivial, fun ob =>
        have mu : Mut (H2 p) := by rw [hp]; trivial
        o1 w2 _ (.ref p) (l2.trans (later_upd nF mu)) (hr_upd hr2 nF mu nm nP) (.dct upd_same ke (rv.mono (later_upd nF mu)))⟩
  · exact o1.elim
variable {kx vx tg iter : Expr} {ifs : List Expr} {scope : Scope} {own : List (Str × Nat)} {is : List Nat} {pos : Pos} {fi : Fl} {t : Fg} {c : Ft} {ek ev : Fn}
theorem w_dc (xo : XO g X) (ok : BlkOk X.N X.env.scope scope own) (hi : PI X tg iter (tIt g W fi))
    (hg : ∀ (s : Shared) (H : Hp) (C : Addr) (cl : List (Str × Addr)) (fp : List Addr), PG (X.blk s H scope (compEnvC scope cl C X.env) fp) tg (tG g is t)) (ht : ∀ (s : Shared) (H : Hp) (C : Addr) (cl : List (Str × Addr)) (fp : List Addr), PTs (X.blk s H scope (compEnvC scope cl C X.env) fp) ifs (tT g EF c))
    (hk : ∀ (s : Shared) (H : Hp) (C : Addr) (cl : List (Str × Addr)) (fp : List Addr), PE (X.blk s H scope (compEnvC scope cl C X.env) fp) kx (tI g EF ek))
    (he : ∀ (s : Shared) (H : Hp) (C : Addr) (cl : List (Str × Addr)) (fp : List Addr), PE (X.blk s H scope (compEnvC scope cl C X.env) fp) vx (tI g EF ev))
    (hsub : ∀ i ∈ is, i ∈ own.map (·.2) := by decide) (hs : ∀ x, foldedSetIterable iter X.env x = pure x := by intro _; rfl) :
    PE X (.DictComp kx vx [⟨tg, iter, ifs, 0⟩] scope pos) (tI g W (xDc fi (own.map (·.2)) t c ek ev)) :=
  ⟨fun pins s σ H Q I h => (pe_lockN (pe_dc xo.calm xo.nd hi ok hg ht hk he hs)).run pins s σ H Q I (dc_rd hsub h)⟩
def keysD (d : D) (h : Hh) : Res (List D) := match d with
  | .dct kds => .ok (kds.map fun p => ofK p.1) h
  | _ => .bad
def iK (a : Fn) : Fl := fun ρ h => (a ρ h).bind fun d h1 => keysD d h1
theorem jok_keys {a : Addr} {ob : Obj} {kvs : List (Key × V)} {kds : List (Key × D)} (hp : H a = some (.frz ob (.dK kvs))) (ke : kvs.map (·.1) = kds.map (·.1)) : JOk g (Itk a ob kvs) w H (kds.map fun p => ofK p.1) := fun w' H' h' l hr i => by
  have e := l.sf a ob _ hp
  have hl : kvs.length = kds.length := by simpa using congrArg List.length ke
  refine ⟨fun d hd => ?_, fun hd => ?_⟩
  · rw [List.getElem?_map, Option.map_eq_some_iff] at hd
    obtain ⟨p, e1, rfl⟩ := hd
    have hi := (List.getElem?_eq_some_iff.mp e1).1
    refine ⟨⟨e, by omega⟩, fun x H'' y => ?_⟩
    obtain ⟨rfl, k, v, e2, rfl⟩ := y
    have e3 : (kvs.map (·.1))[i]? = (kds.map (·.1))[i]? := by rw [ke]
    rw [List.getElem?_map, List.getElem?_map, e1, e2] at e3
    have e4 : k = p.1 := by simpa using e3
    rw [e4]
    exact ⟨w', Later.refl _ _, hr, ofK_ok _⟩
  · rw [List.getElem?_map, Option.map_eq_none_iff] at hd
    have := List.getElem?_eq_none_iff.mp hd
    exact ⟨e, by omega⟩
theorem q_keys {a tg : Expr} {fa : Fn} (ha : PE X a (tI g W fa)) : PI X tg a (tIt g W (iK fa)) := ⟨fun pins s σ H R I ⟨w, ρ, h, sr, o⟩ => (pi_keys ha).run pins s σ H R I (tI_go sr o fun V H1 w1 d h1 l sr1 rv o1 => by
  unfold keysD at o1
  split at o1
  · cases rv with
    | dct hp ke t => exact ⟨_, _, rfl, .inl ⟨_, hp, o1 w1 H1 _ (Later.refl w1 H1) sr1.hr (jok_keys hp ke)⟩⟩
  · exact o1.elim)⟩
def prK : D → Option (Key × D)
  | .tup [k, v] => (toK k).map fun k => (k, v)
  | _ => none
def prKs : List D → Option (List (Key × D))
  | [] => some []
  | d :: ds => match prK d, prKs ds with | some p, some ps => some (p :: ps) | _, _ => none
def dmerge (kds : List (Key × D)) : List (Key × D) := kds.foldl (fun acc p => dput acc p.1 p.2) []
def xDictP (f : Fn) : Fn := fun ρ h => (f ρ h).bind fun d h1 => match asL h1 d with
  | some ds => match prKs ds with
    | some kds => .ok (.dct (dmerge kds)) h1
    | none => .bad
  | none => .bad
theorem prKs_ok {K : PySem.W.Frag} : ∀ {ds : List D} {kds : List (Key × D)} {vs : List V}, prKs ds = some kds → RVs g w H ds vs → ∃ (ps : List Addr) (kvs : List (Key × V)), vs = ps.map V.ref ∧ Paired (fun p kv => SqT K H p [kV kv.1, kv.2]) ps kvs ∧ kvs.map (·.1) = kds.map (·.1) ∧ RVs g w H (kds.map (·.2)) (kvs.map (·.2))
  | [], kds, vs, e, r => by
    simp only [prKs, Option.some.injEq] at e
    subst e
    cases r
    exact ⟨[], [], rfl, .nil, rfl, .nil⟩
  | d :: ds, kds, vs, e, r => by
    simp only [prKs] at e
    split at e
    · rename_i p ps e1 e2
      cases e
      cases r with
      | cons r1 r2 =>
        obtain ⟨as, kvs, rfl, pr, ke, rv⟩ := prKs_ok (K := K) e2 r2
        unfold prK at e1
        split at e1
        · rename_i k v
          rw [Option.map_eq_some_iff] at e1
          obtain ⟨kk, e3, rfl⟩ := e1
          obtain ⟨a, us, rfl, hp, t⟩ := rv_tup r1
          obtain ⟨x, y, rfl, rx, ry⟩ := rvs2 t
          rw [toK_ok e3 rx] at hp
          exact ⟨a :: as, (kk, y) :: kvs, rfl, .cons (.inl (.inl hp)) pr, by simp [ke], .cons ry rv⟩
        · cases e1
    · cases e
theorem merge_ok : ∀ {kds acc : List (Key × D)} {kvs accV : List (Key × V)}, accV.map (·.1) = acc.map (·.1) → RVs g w H (acc.map (·.2)) (accV.map (·.2)) → kvs.map (·.1) = kds.map (·.1) → RVs g w H (kds.map (·.2)) (kvs.map (·.2)) →
    (mergeK accV kvs).map (·.1) = (kds.foldl (fun acc p => dput acc p.1 p.2) acc).map (·.1) ∧ RVs g w H ((kds.foldl (fun acc p => dput acc p.1 p.2) acc).map (·.2)) ((mergeK accV kvs).map (·.2))
  | [], acc, [], accV, k1, r1, _, _ => ⟨k1, r1⟩
  | [], _, _ :: _, _, _, _, e, _ => by simp at e
  | _ :: _, _, [], _, _, _, e, _ => by simp at e
  | p :: kds, acc, q :: kvs, accV, k1, r1, e, r => by
    simp only [List.map_cons, List.cons.injEq] at e
    cases r with
    | cons ra rb =>
      obtain ⟨k2, r2⟩ := dput_ok (k := q.1) k1 r1 ra
      rw [e.1] at k2 r2
      have := merge_ok (accV := putK accV q.1 q.2) (acc := dput acc p.1 p.2) (by rw [e.1]; exact k2) (by rw [e.1]; exact r2) e.2 rb
      exact this
theorem q_dictP {a : Expr} {fa : Fn} {p pos : Pos} (xo : XO g X) (hg : Gl X "dict") (hm : g.mg "dict" = none) (ha : PE X a (tI g W fa)) (hs : starEach [a] X.env = [(false, eval a X.env)] := by rfl) : PE X (.Call (.Name "dict" p) [a] [] pos) (tI g W (xDictP fa)) := by
  have hp := pe_lockN (pe_callTy (p := p) (pos := pos) (call_dictP xo.calm) hg (by rw [xo.mg]; exact hm) (by decide +kernel) (pa_cons ha pa_nil hs) (by decide +kernel) (by decide +kernel) hs)
  exact ⟨fun pins s σ H Q I ⟨w, ρ, h, sr, o⟩ => hp.run pins s σ H Q I (tI_go sr o fun V H1 w1 d h1 l sr1 rv o1 => by
    split at o1
    · rename_i ds e1
      split at o1
      · rename_i kds e2
        obtain ⟨pa, vs, rfl, hq, t⟩ := asL_ok e1 sr1.hr rv
        obtain ⟨ps, kvs, rfl, pr, ke, rk⟩ := prKs_ok (K := X.K) e2 t
        obtain ⟨k2, r2⟩ := merge_ok (acc := []) (accV := []) rfl .nil ke rk
        refine ⟨pa, ps, kvs, rfl, .inl (.inl hq), pr, fun q hq2 => ⟨q, _, rfl, upd_same, trivial, fun ob => ?_⟩⟩
        rw [upd_twice]
        exact OKg.dct o1 sr1.hr k2 r2 q ob hq2
      · exact o1.elim
    · exact o1.elim)⟩
end
end Bx
namespace Bs
open PySem PySem.Spec PyProof.Rows L2
def Ext (h0 h : Heap) : Prop := ∀ b o, h0.get? b = some o → h.get? b = some o
/-- objects of h0 (those of T), a test of sameness, a hash: what the machine asks of them, wherever h0 still stands -/
structure El (P : Program) (w : World) (h0 : Heap) (T : Addr → Prop) (same : Addr → Addr → Bool) (th : Addr → Int) : Prop where
  cong : ∀ a b, T a → T b → same a b = true → th a = th b
  trans : ∀ a b c, same a b = true → same b c = true → same a c = true
  symm : ∀ a b, same a b = true → same b a = true
  eq : ∀ (A : Around) (E : Value → Shared → Prop) (s : Shared) (Q : Bool → Shared → Prop) (a b : Addr), T a → T b → Ext h0 s.heap → A.units < cLine → Q (same a b) s → wpAny (model P w) A (eqBool (.ref a) (.ref b)) Q E s
  calm : ∀ (A : Around) (E : Value → Shared → Prop) (s : Shared) (Q : Bool → Shared → Prop) (x : Addr) (ys : List Value), T x → (∀ y ∈ ys, ∃ b, y = .ref b ∧ T b) → Ext h0 s.heap → Q false s → wpAny (model P w) A (searchCouldBeSeen (.ref x) ys) Q E s
  byv : ∀ (A : Around) (E : Value → Shared → Prop) (s : Shared) (Q : Bool → Shared → Prop) (x : Addr), T x → Ext h0 s.heap → (∀ b, Q b s) → wpAny (model P w) A (hashByValue 8 (.ref x)) Q E s
  hash : ∀ (A : Around) (E : Value → Shared → Prop) (s : Shared) (Q : Int → Shared → Prop) (x : Addr), T x → Ext h0 s.heap → A.units < cLine → (∀ tk, s.toks ≤ tk → Q (th x) { s with toks := tk }) → wpAny (model P w) A (pyHash (.ref x)) Q E s
/-- the set at S holds the objects as -/
structure Hold (w : World) (T : Addr → Prop) (same : Addr → Addr → Bool) (th : Addr → Int) (h : Heap) (S : Addr) (as : List Addr) (es : Array (Int × Value)) (ep : Nat) (t : SetTable) : Prop where
  ob : ∃ o, h.get? S = some o ∧ o.ExactSet ∧ o.data = .set es ep t
  rows : es.toList = as.map fun a => (th a, Value.ref a)
  tab : TabOk t (as.map th)
  apart : as.Pairwise fun a b => same a b = false
  tt : ∀ a ∈ as, T a
  led : w.params.followText "set-order" = true ∨ t.led = true
  room : as.length * 5 < t.mask * 3
  few : as.length < 64
section
variable {P : Program} {w : World} {h0 : Heap} {T : Addr → Prop} {same : Addr → Addr → Bool} {th : Addr → Int} {A : Around} {E : Value → Shared → Prop} {s : Shared} {S : Addr} {as : List Addr} {es : Array (Int × Value)} {ep : Nat} {t : SetTable}
theorem Hold.size {h : Heap} (R : Hold w T same th h S as es ep t) : es.size = as.length := by
  rw [← Array.length_toList, R.rows, List.length_map]
theorem Hold.fits {h : Heap} (R : Hold w T same th h S as es ep t) : t.fits es.size = true := by
  have e1 := R.tab.sz
  rw [List.length_map] at e1
  simp only [SetTable.fits, SetTable.fill, R.tab.dm, Bool.and_eq_true, beq_iff_eq, decide_eq_true_eq]
  have := R.size
  have := R.room
  constructor
  · omega
  · show t.place.size + 0 ≤ t.mask
    omega
theorem Hold.at {h : Heap} (R : Hold w T same th h S as es ep t) {i : Nat} {y : Addr} (e : as[i]? = some y) : es[i]? = some (th y, .ref y) := by
  rw [← Array.getElem?_toList, R.rows, List.getElem?_map, e]
  rfl
theorem Hold.odd {h : Heap} (R : Hold w T same th h S as es ep t) : (t.gaveWay = true) → False := fun z => by
  simp only [SetTable.gaveWay, mask_odd R.tab.mok] at z
  exact absurd z (by decide)
/-- where the c-th step of x's way stands -/
def spot (t : SetTable) (h : Int) (c : Nat) : SetTable.Probe := nth t.mask (t.probeStart h) c
theorem spot_j (t : SetTable) (h : Int) (c : Nat) : (spot t h c).j = way t.mask h c := rfl
theorem spot_add (t : SetTable) (h : Int) (c q : Nat) : nth t.mask (spot t h c) q = spot t h (c + q) := (nth_add t.mask c _ q).symm
theorem nth_dummy (m : Nat) : ∀ (q : Nat) (p : SetTable.Probe), p.dummy = none → (nth m p q).dummy = none
  | 0, p, e => e
  | q + 1, p, e => nth_dummy m q (adv m p) (by unfold adv; split <;> exact e)
theorem find_go (L : El P w h0 T same th) (R : Hold w T same th s.heap S as es ep t) (hx0 : Ext h0 s.heap) {x : Addr} (tx : T x) (hu : A.units < cLine) {K : Nat} (hK : K < 10 * SetTable.turns t.mask) (free : way t.mask (th x) K ∉ t.place.toList) (full : ∀ c, c < K → way t.mask (th x) c ∈ t.place.toList)
    {Q : SetFound → Shared → Prop} (yes : (∃ y ∈ as, same y x = true) → Q (.there none) s) (no : (∀ y ∈ as, same y x = false) → Q (.free (way t.mask (th x) K) false) s) :
    ∀ (f c : Nat) (st : Option SetTable.Probe), st.getD (t.probeStart (th x)) = spot t (th x) c → c ≤ K → K - c < f →
      (∀ (i : Nat) (y : Addr), as[i]? = some y → same y x = true → ∃ c', c ≤ c' ∧ c' < K ∧ t.place.toList[i]? = some (way t.mask (th x) c')) →
      wpAny (model P w) A (setSearchFrom S (.ref x) (th x) true f st) Q E s := by
  obtain ⟨o, ho, hex, hd⟩ := R.ob
  intro f
  induction f with
  | zero => intro c st _ _ hf _; omega
  | succ f ih =>
    intro c st hst hc hf left
    rw [setSearchFrom_succ]
    refine wpAny_bind (wpAny_setState_of ho hd R.fits ?_)
    refine wp_if_neg (fun z => R.odd z) ?_
    try refine wpAny_bind (wpAny_pure ?_)
    have hAt : ∀ (i : Nat) (y : Addr), as[i]? = some y → ((es[i]?.map (·.1)).getD 0) = th y := fun i y e => by rw [R.at e]; rfl
    have look := go_spec t R.tab.ris R.tab.dm (fun i => (es[i]?.map (·.1)).getD 0) (th x) (10 * SetTable.turns t.mask) (K - c) (spot t (th x) c) (nth_dummy _ _ _ rfl) (by omega)
      (fun q hq => by rw [spot_add, spot_j]; exact full _ (by omega)) (by rw [spot_add, spot_j, show c + (K - c) = K by omega]; exact free)
    simp only [spot_add, spot_j] at look
    rcases look with ⟨q, i, hq, hi, hh, early, pr⟩ | ⟨early, pr⟩
    · have pr' : t.probe (fun i => (es[i]?.map (·.1)).getD 0) (th x) (st.getD (t.probeStart (th x))) = some (.candidate (way t.mask (th x) (c + q)) i (spot t (th x) (c + (q + 1)))) := by rw [hst]; exact pr
      rw [pr']
      dsimp only
      have il : i < as.length := by
        have z1 := (List.getElem?_eq_some_iff.mp hi).1
        have z2 := R.tab.sz
        rw [List.length_map] at z2
        rw [Array.length_toList] at z1
        omega
      obtain ⟨y, hy⟩ : ∃ y, as[i]? = some y := ⟨as[i], List.getElem?_eq_getElem il⟩
      have my := List.mem_of_getElem? hy
      have core : wpAny (model P w) A (searchRest S (.ref x) (th x) true f es t (way t.mask (th x) (c + q)) i (spot t (th x) (c + (q + 1)))) Q E s := by
        unfold searchRest
        rw [R.at hy]
        dsimp only
        refine wpAny_bind (wpAny_holding (L.eq A E s _ y x (R.tt y my) tx hx0 hu ?_))
        refine wpAny_bind (wpAny_setState_of ho hd R.fits ?_)
        cases hs : same y x with
        | true =>
          refine wp_if_pos (by simp) ?_
          exact wpAny_pure (yes ⟨y, my, hs⟩)
        | false =>
          refine wp_if_neg (by simp) ?_
          try refine wpAny_bind (wpAny_pure ?_)
          have live : t.slot (way t.mask (th x) (c + q)) = .live i := slot_live R.tab.ris hi
          rw [sameMem]
          dsimp only
          simp only [if_true, live, R.at hy]
          refine wpAny_bind (wpAny_isSame_ref_self (wpAny_bind (wpAny_pure ?_)))
          simp only [if_true]
          refine wp_if_neg (by simp) ?_
          refine ih (c + (q + 1)) _ rfl (by omega) (by omega) fun i1 y1 e1 s1 => ?_
          obtain ⟨c1, k1, k2, k3⟩ := left i1 y1 e1 s1
          refine ⟨c1, ?_, k2, k3⟩
          have hh1 : th y1 = th x := L.cong _ _ (R.tt y1 (List.mem_of_getElem? e1)) tx s1
          by_cases lt : c1 < c + q
          · have z := early (c1 - c) i1 (by omega) (by rw [show c + (c1 - c) = c1 by omega]; exact k3)
            rw [hAt i1 y1 e1] at z
            exact absurd hh1 z
          · by_cases eq : c1 = c + q
            · rw [eq] at k3
              have z := slot_live R.tab.ris k3
              rw [live] at z
              injection z with z
              rw [← z, hy] at e1
              cases e1
              rw [hs] at s1
              cases s1
            · omega
      by_cases hl : t.led = true
      · refine wp_if_neg (by simp [hl]) ?_
        try refine wpAny_bind (wpAny_pure ?_)
        exact core
      · refine wp_if_pos (by simp [hl]) ?_
        refine wpAny_bind (L.calm A E s _ x _ tx (fun v hv => ?_) hx0 ?_)
        · obtain ⟨e, he, rfl⟩ := List.mem_map.mp hv
          have he2 : e ∈ es.toList := by
            have z : e ∈ es ∧ e.1 = th x := by simpa using he
            simpa using z.1
          rw [R.rows] at he2
          obtain ⟨b, hb, rfl⟩ := List.mem_map.mp he2
          exact ⟨b, rfl, R.tt b hb⟩
        · refine wp_if_neg (by decide) ?_
          try refine wpAny_bind (wpAny_pure ?_)
          exact core
    · have pr' : t.probe (fun i => (es[i]?.map (·.1)).getD 0) (th x) (st.getD (t.probeStart (th x))) = some (.empty (way t.mask (th x) K) none) := by
        rw [hst]
        rw [show c + (K - c) = K by omega] at pr
        exact pr
      rw [pr']
      dsimp only
      refine wpAny_pure (no fun y my => ?_)
      cases hs : same y x with
      | false => rfl
      | true =>
        obtain ⟨i, hi, e⟩ := List.getElem_of_mem my
        have e1 : as[i]? = some y := by rw [List.getElem?_eq_getElem hi, e]
        obtain ⟨c1, k1, k2, k3⟩ := left i y e1 hs
        have z := early (c1 - c) i (by omega) (by rw [show c + (c1 - c) = c1 by omega]; exact k3)
        rw [hAt i y e1] at z
        exact absurd (L.cong _ _ (R.tt y my) tx hs) z
/-- a search, whole -/
theorem find_ok (L : El P w h0 T same th) (R : Hold w T same th s.heap S as es ep t) (hx0 : Ext h0 s.heap) {x : Addr} (tx : T x) (hu : A.units < cLine) {Q : SetFound → Shared → Prop} (yes : (∃ y ∈ as, same y x = true) → Q (.there none) s)
    (no : ∀ K, (∀ y ∈ as, same y x = false) → way t.mask (th x) K ∉ t.place.toList → (∀ c, c < K → way t.mask (th x) c ∈ t.place.toList) → Q (.free (way t.mask (th x) K) false) s) :
    wpAny (model P w) A (setSearch S (.ref x) (th x) true) Q E s := by
  obtain ⟨K, hK, free, full⟩ := R.tab.first (by rw [List.length_map]; have := R.room; omega) (th x)
  have few : 10 * SetTable.turns t.mask ≤ 1420 := by
    unfold SetTable.turns
    rcases R.tab.mok with e | e | e <;> omega
  unfold setSearch
  refine find_go L R hx0 tx hu hK free full yes (fun z => no K z free full) 100000 0 none rfl (Nat.zero_le _) (by omega) fun i y e s1 => ?_
  have il : i < t.place.toList.length := by
    have := (List.getElem?_eq_some_iff.mp e).1
    have z := R.tab.sz
    rw [List.length_map] at z
    rw [Array.length_toList]
    omega
  have hj := List.getElem?_eq_getElem il
  have hi : (as.map th)[i]? = some (th x) := by rw [List.getElem?_map, e, ← L.cong _ _ (R.tt y (List.mem_of_getElem? e)) tx s1]; rfl
  obtain ⟨c, hc, ec⟩ := R.tab.before free hi hj
  exact ⟨c, Nat.zero_le _, hc, by rw [hj, ec]⟩
end
end Bs
namespace Bs
open PySem PySem.Spec PyProof.Rows L2
theorem pick_all {α : Type} : ∀ l : List α, (List.range l.length).filterMap (fun i => l[i]?) = l
  | [] => rfl
  | a :: l => by
    have e : (List.range l.length).filterMap ((fun i => (a :: l)[i]?) ∘ Nat.succ) = l := pick_all l
    rw [List.length_cons, List.range_succ_eq_map, List.filterMap_cons_some (f := fun i => (a :: l)[i]?) (b := a) (a := 0) rfl, List.filterMap_map, e]
theorem pick_map {α : Type} {n : Nat} {l : List α} {g : α → Int} {hs : Array Int} (hl : hs.toList = l.map g) : ∀ ix : List Nat, (∀ i ∈ ix, i < l.length) → ix.map (fun i => hs.getD i 0) = (ix.filterMap fun i => l[i]?).map g
  | [], _ => rfl
  | i :: ix, h => by
    have hi := h i List.mem_cons_self
    have e : l[i]? = some l[i] := List.getElem?_eq_getElem hi
    have e2 : hs[i]? = some (g l[i]) := by rw [← Array.getElem?_toList, hl, List.getElem?_map, e]; rfl
    rw [List.filterMap_cons_some e, List.map_cons, List.map_cons, pick_map (n := n) hl ix fun j hj => h j (List.mem_cons_of_mem _ hj)]
    simp [Array.getD_eq_getD_getElem?, e2]
section
variable {P : Program} {w : World} {h0 : Heap} {T : Addr → Prop} {same : Addr → Addr → Bool} {th : Addr → Int} {A : Around} {E : Value → Shared → Prop} {s : Shared} {S : Addr} {as : List Addr} {es : Array (Int × Value)} {ep : Nat} {t : SetTable}
theorem apart_perm (L : El P w h0 T same th) {l l' : List Addr} (p : l'.Perm l) (h : l.Pairwise fun a b => same a b = false) : l'.Pairwise fun a b => same a b = false :=
  (p.pairwise_iff (fun {a b} z => by
    cases q : same b a with
    | false => rfl
    | true => rw [L.symm _ _ q] at z; cases z)).mpr h
/-- the table is laid anew -/
theorem relay_ok (L : El P w h0 T same th) {o : Obj} (ho : s.heap.get? S = some o) (hex : o.ExactSet) (hd : o.data = .set es ep t) (rows : es.toList = as.map fun a => (th a, Value.ref a)) (tab : TabOk t (as.map th)) (fl : as.length ≤ t.mask)
    (apart : as.Pairwise fun a b => same a b = false) (tt : ∀ a ∈ as, T a) (ld : w.params.followText "set-order" = true ∨ t.led = true) (few : as.length < 64) {wanted M : Nat} (hw : SetTable.sizeAbove wanted - 1 = M) (hM : MaskOk M) (hw2 : SetTable.sizeAbove wanted ≤ 128)
    (hn : as.length * 5 < M * 3) {Q : Unit → Shared → Prop} (hQ : ∀ h' as' es' ep' t', Heap.SameBut S s.heap h' → Hold w T same th h' S as' es' ep' t' → as'.Perm as → Q () { s with heap := h' }) : wpAny (model P w) A (setRelay S wanted) Q E s := by
  have sz : es.size = as.length := by rw [← Array.length_toList, rows, List.length_map]
  have ps : t.place.size = as.length := by have := tab.sz; rwa [List.length_map] at this
  have fits : t.fits es.size = true := by
    simp only [SetTable.fits, SetTable.fill, tab.dm, Bool.and_eq_true, beq_iff_eq, decide_eq_true_eq]
    exact ⟨by omega, by show t.place.size + 0 ≤ t.mask; omega⟩
  have hsl : (es.map (·.1)).toList = as.map th := by rw [Array.toList_map, rows, List.map_map]; rfl
  obtain ⟨t', order, e, pm, T', em, el, ep1, ed⟩ := relaid_ok t (hs := es.map (·.1)) (wanted := wanted) hw hM (by rw [Array.size_map, sz]; omega)
  rw [Array.size_map, sz] at pm
  have inr : ∀ i ∈ order.toList, i < as.length := fun i hi => List.mem_range.mp (pm.mem_iff.mp hi)
  rw [pick_map (n := 0) hsl order.toList inr] at T'
  have pas : (order.toList.filterMap fun i => as[i]?).Perm as := by
    have z := pm.filterMap fun i => as[i]?
    rwa [pick_all] at z
  have prows : (order.filterMap (es[·]?)).toList = (order.toList.filterMap fun i => as[i]?).map fun a => (th a, Value.ref a) := by
    rw [Array.toList_filterMap, List.map_filterMap]
    congr 1
    funext i
    rw [← Array.getElem?_toList, rows, List.getElem?_map]
  generalize order.toList.filterMap (fun i => as[i]?) = as2 at T' pas prows
  have sz2 : (order.filterMap (es[·]?)).size = es.size := by rw [← Array.length_toList, prows, List.length_map, pas.length_eq, sz]
  rw [setRelay_eq]
  refine wpAny_bind (wpAny_setState_of ho hd fits ?_)
  dsimp only
  refine wp_if_neg (by rw [sizeLine_eq]; omega) ?_
  try refine wpAny_bind (wpAny_pure ?_)
  rw [e]
  dsimp only
  refine wpAny_bind ?_
  refine wp_if_neg (by rw [sz2]; simp) ?_
  try refine wpAny_bind (wpAny_pure ?_)
  refine wpAny_pure ?_
  dsimp only
  refine wpAny_storeSet_of ho hd ?_ (by rw [sz2, sz, sizeLine_eq]; omega)
  exact hQ _ as2 _ (ep + 1) t' (Heap.SameBut.update ..) ⟨⟨_, store_at ho hd, ⟨hex.1, hex.2.1, hex.2.2⟩, rfl⟩, prows, T', apart_perm L pas apart, fun a ha => tt a (pas.mem_iff.mp ha), by rw [el]; exact ld, by rw [pas.length_eq, em]; exact hn, by rw [pas.length_eq]; exact few⟩ pas
/-- a place was found: the object is laid there -/
theorem lay_ok (L : El P w h0 T same th) (R : Hold w T same th s.heap S as es ep t) {x : Addr} (tx : T x) (new : ∀ y ∈ as, same y x = false) (room : as.length + 1 < 64) {t2 : SetTable} {p : Nat} (tab : TabOk t2 ((as.map th).take p ++ th x :: (as.map th).drop p)) (hm : t2.mask = t.mask) (hl : t2.led = t.led)
    (hf : t2.fill = as.length + 1) {Q : Bool → Shared → Prop} (hQ : ∀ b h' as' es' ep' t', Heap.SameBut S s.heap h' → Hold w T same th h' S as' es' ep' t' → as'.Perm (x :: as) → Q b { s with heap := h' }) :
    wpAny (model P w) A (do
      storeSet S (SetTable.insertAt es p (th x, Value.ref x)) t2
      if !false && t2.tooFull then setRelay S (SetTable.grown (es.size + 1))
      return true) Q E s := by
  obtain ⟨o, ho, hex, hd⟩ := R.ob
  have hsz := R.size
  have hrm := R.room
  have pm : (as.take p ++ x :: as.drop p).Perm (x :: as) := by
    have z : (as.take p ++ x :: as.drop p).Perm (x :: (as.take p ++ as.drop p)) := List.perm_middle
    rwa [List.take_append_drop] at z
  have rows1 : (SetTable.insertAt es p (th x, Value.ref x)).toList = (as.take p ++ x :: as.drop p).map fun a => (th a, Value.ref a) := by
    rw [SetTable.toList_insertAt, R.rows, List.map_append, List.map_cons, List.map_take, List.map_drop]
  have tab1 : TabOk t2 ((as.take p ++ x :: as.drop p).map th) := by
    rw [List.map_append, List.map_cons, List.map_take, List.map_drop]
    exact tab
  have ap1 : (as.take p ++ x :: as.drop p).Pairwise fun a b => same a b = false := by
    refine apart_perm L pm (List.pairwise_cons.mpr ⟨fun y hy => ?_, R.apart⟩)
    cases z : same x y with
    | false => rfl
    | true => rw [← new y hy, L.symm _ _ z]
  have tt1 : ∀ a ∈ as.take p ++ x :: as.drop p, T a := fun a ha => by
    rcases List.mem_cons.mp (pm.mem_iff.mp ha) with z | z
    · rw [z]; exact tx
    · exact R.tt a z
  have len1 := pm.length_eq
  rw [List.length_cons] at len1
  generalize as.take p ++ x :: as.drop p = as1 at pm rows1 tab1 ap1 tt1 len1
  have sz1 : (SetTable.insertAt es p (th x, Value.ref x)).size = as1.length := by rw [← Array.length_toList, rows1, List.length_map]
  generalize SetTable.insertAt es p (th x, Value.ref x) = es1 at rows1 sz1 ⊢
  refine wpAny_bind (wpAny_storeSet_of ho hd ?_ (by rw [sz1, sizeLine_eq]; omega))
  have sb : Heap.SameBut S s.heap (s.heap.update S (Obj.putSet es1 t2)) := Heap.SameBut.update ..
  have ho1 := store_at (es' := es1) (t' := t2) ho hd
  generalize s.heap.update S (Obj.putSet es1 t2) = h1 at sb ho1 ⊢
  have ld1 : w.params.followText "set-order" = true ∨ t2.led = true := by rw [hl]; exact R.led
  have full : t2.tooFull = decide ((as.length + 1) * 5 ≥ t2.mask * 3) := by unfold SetTable.tooFull; rw [hf]
  by_cases hfu : t2.tooFull = true
  · first
      | (refine wpAny_bind ?_; refine wp_if_pos (by simp [hfu]) ?_)
      | (refine wp_if_pos (by simp [hfu]) ?_; refine wpAny_bind ?_)
    have fu : (as.length + 1) * 5 ≥ t2.mask * 3 := by rwa [full, decide_eq_true_eq] at hfu
    have grow : ∀ M, SetTable.sizeAbove (SetTable.grown (as.length + 1)) - 1 = M → MaskOk M → SetTable.sizeAbove (SetTable.grown (as.length + 1)) ≤ 128 → (as.length + 1) * 5 < M * 3 → as.length + 1 ≤ t2.mask →
        wpAny (model P w) A (setRelay S (SetTable.grown (as.length + 1))) (fun _ s' => wpAny (model P w) A (pure true) Q E s') E { s with heap := h1 } := fun M g1 g2 g3 g4 g5 =>
      relay_ok (s := { s with heap := h1 }) L ho1 ⟨hex.1, hex.2.1, hex.2.2⟩ rfl rows1 tab1 (by omega) ap1 tt1 ld1 (by omega) g1 g2 g3 (by rw [len1]; exact g4) fun h2 as2 es2 ep2 t3 sb2 R2 pm2 =>
        wpAny_pure (hQ true h2 as2 es2 ep2 t3 (sb.trans sb2) R2 (pm2.trans pm))
    rw [hsz]
    rcases R.tab.mok with m | m | m
    · have e4 : as.length = 4 := by rw [hm, m] at fu; rw [m] at hrm; omega
      exact grow 31 (by rw [e4, size_20]) (.inr (.inl rfl)) (by rw [e4, size_20]; decide) (by omega) (by rw [hm, m]; omega)
    · have e4 : as.length = 18 := by rw [hm, m] at fu; rw [m] at hrm; omega
      exact grow 127 (by rw [e4, size_76]) (.inr (.inr rfl)) (by rw [e4, size_76]; decide) (by omega) (by rw [hm, m]; omega)
    · exfalso
      rw [hm, m] at fu
      omega
  · first
      | refine wp_if_neg (by simp [hfu]) ?_
      | (refine wpAny_bind ?_; refine wp_if_neg (by simp [hfu]) ?_; refine wpAny_pure ?_)
    refine wpAny_pure (hQ true h1 as1 es1 (ep + 1) t2 sb ⟨⟨_, ho1, ⟨hex.1, hex.2.1, hex.2.2⟩, rfl⟩, rows1, tab1, ap1, tt1, ld1, ?_, by omega⟩ pm)
    rw [full, decide_eq_true_eq] at hfu
    rw [len1]
    omega
/-- one object more -/
theorem add_ok (L : El P w h0 T same th) (R : Hold w T same th s.heap S as es ep t) (hx0 : Ext h0 s.heap) {x : Addr} (tx : T x) (hu : A.units < cLine) (room : as.length + 1 < 64) {Q : Bool → Shared → Prop}
    (hQ : ∀ b h' as' es' ep' t', Heap.SameBut S s.heap h' → Hold w T same th h' S as' es' ep' t' → ((∃ y ∈ as, same y x = true) ∧ as' = as ∨ as'.Perm (x :: as)) → Q b { s with heap := h' }) :
    wpAny (model P w) A (setAddHashed S (.ref x) (th x)) Q E s := by
  obtain ⟨o, ho, hex, hd⟩ := R.ob
  unfold setAddHashed
  refine wpAny_holding ?_
  rw [show (100000 : Nat) = 99999 + 1 from rfl, setAddHashedIn_succ]
  refine wpAny_bind (wpAny_setState_of ho hd R.fits ?_)
  dsimp only
  refine wp_if_neg (by simp [byScan, Value.scannable]) ?_
  try refine wpAny_bind (wpAny_pure ?_)
  refine wpAny_bind (find_ok L R hx0 tx hu (fun hm => ?_) fun K hm free full => ?_)
  · dsimp only
    exact wpAny_pure (hQ false s.heap as es ep t (Heap.SameBut.refl S s.heap) R (.inl ⟨hm, rfl⟩))
  · dsimp only
    refine wpAny_bind (wpAny_setState_of ho hd R.fits ?_)
    dsimp only
    obtain ⟨q1, q2, q3, q4, q5, q6, q7, q8, q9⟩ := R.tab.put free full
    rw [List.length_map] at q9
    generalize t.put (way t.mask (th x) K) = pt at q1 q3 q4 q5 q6 q7 q8 q9 ⊢
    obtain ⟨t1, p0⟩ := pt
    dsimp only at q1 q3 q4 q5 q6 q7 q8 q9 ⊢
    subst q1
    have go := fun (t2 : SetTable) tab hm2 hl2 hf2 => lay_ok (A := A) (E := E) (s := s) (Q := Q) (t2 := t2) (p := SetTable.below t.place (way t.mask (th x) K)) L R tx hm room tab hm2 hl2 hf2 fun b h' as' es' ep' t' sb R' pm => hQ b h' as' es' ep' t' sb R' (.inr pm)
    by_cases hp : t1.plain = true
    · first
        | (refine wpAny_bind ?_; refine wp_if_pos hp ?_; refine L.byv A E s _ x tx hx0 fun b => ?_)
        | refine wp_if_pos hp (wpAny_bind (L.byv A E s _ x tx hx0 fun b => ?_))
      cases b with
      | true => exact go t1 q3 q4 q5 q9
      | false => exact go { t1 with plain := false } ⟨q3.ris, q3.dm, q3.sz, q3.mok, q3.bd, q3.reach⟩ q4 q5 q9
    · first
        | (refine wpAny_bind ?_; refine wp_if_neg hp ?_; refine wpAny_pure ?_)
        | refine wp_if_neg hp (wpAny_bind (wpAny_pure ?_))
        | refine wp_if_neg hp ?_
      exact go t1 q3 q4 q5 q9
end
end Bs
namespace Bs
open PySem PySem.Spec PyProof.Rows L2
/-- as stands for the first i of xs: some of them, and of each one the same -/
structure Upto (same : Addr → Addr → Bool) (xs : List Addr) (i : Nat) (as : List Addr) : Prop where
  sub : ∀ a ∈ as, a ∈ xs
  each : ∀ (j : Nat) (x : Addr), j < i → xs[j]? = some x → ∃ a ∈ as, same a x = true
  few : as.length ≤ i
section
variable {P : Program} {w : World} {h0 : Heap} {T : Addr → Prop} {same : Addr → Addr → Bool} {th : Addr → Int} {A : Around} {E : Value → Shared → Prop} {s : Shared} {S : Addr}
theorem Hold.other {h h' : Heap} {as : List Addr} {es : Array (Int × Value)} {ep : Nat} {t : SetTable} (R : Hold w T same th h S as es ep t) (k : ∀ o, h.get? S = some o → h'.get? S = some o) : Hold w T same th h' S as es ep t :=
  let ⟨o, ho, r⟩ := R.ob
  ⟨⟨o, k o ho, r⟩, R.rows, R.tab, R.apart, R.tt, R.led, R.room, R.few⟩
theorem hold_new {h : Heap} (ho : h.get? S = some { cls := .type "set", dict := none, data := .set #[] 0 (.fresh 0 0 (!w.params.followText "set-order")) }) : Hold w T same th h S [] #[] 0 (.fresh 0 0 (!w.params.followText "set-order")) where
  ob := ⟨_, ho, ⟨rfl, rfl, rfl⟩, rfl⟩
  rows := rfl
  tab := ⟨List.Pairwise.nil, rfl, rfl, .inl rfl, fun x hx => (by cases hx), fun i h j hi => (by simp at hi)⟩
  apart := .nil
  tt := fun a ha => nomatch ha
  led := by
    by_cases q : w.params.followText "set-order" = true
    · exact .inl q
    · exact .inr (by show (!w.params.followText "set-order") = true; rw [Bool.not_eq_true] at q; rw [q]; rfl)
  room := by show 0 * 5 < 7 * 3; decide
  few := by show 0 < 64; decide
theorem fill_ok (L : El P w h0 T same th) {I : Addr} {fp wr : List Addr} {G : Array GenState → Array GenState → Prop} {xs : List Addr} {Pv : Nat → Value → Prop} {St : Nat → Shared → Prop} {R : Result → Shared → Prop} (Wk : WalksS P w A.in1 I fp wr G xs.length Pv St) (hSf : S ∉ fp) (few : xs.length < 64)
    (val : ∀ i v, Pv i v → ∃ x, xs[i]? = some x ∧ v = .ref x) (tx : ∀ x ∈ xs, T x) (refl : ∀ x, same x x = true) (hS0 : h0.get? S = none) (hw0 : ∀ b ∈ wr, h0.get? b = none) (hu : A.in1.units < cLine)
    (fin : ∀ s0 s' as es ep t, Moved (S :: wr) G s0 s' → Hold w T same th s'.heap S as es ep t → Upto same xs xs.length as → Ext h0 s'.heap → s0 = s → R (.ok (.ret .none)) s') :
    ∀ (k i : Nat) (s1 : Shared), xs.length - i = k → i ≤ xs.length → St i s1 → Ext h0 s1.heap → Moved (S :: wr) G s s1 → (∃ as es ep t, Hold w T same th s1.heap S as es ep t ∧ Upto same xs i as) →
      codeAny (model P w) A (.builtin "set.update.loop" ⟨[.ref S, .ref I], []⟩) R s1 := by
  have sw : S ∉ wr := fun z => hSf (Wk.sub _ z)
  have wide : ∀ b ∈ wr, b ∈ S :: wr := fun b hb => List.mem_cons_of_mem _ hb
  have step : ∀ {a b : Shared}, Moved wr G a b → Ext h0 a.heap → Ext h0 b.heap := fun m x c o e => m.heap c o (fun z => by rw [hw0 c z] at e; cases e) (x c o e)
  intro k
  induction k with
  | zero =>
    rintro i s1 hk hi st x m ⟨as, es, ep, t, Hd, U⟩
    obtain rfl : i = xs.length := by omega
    refine codeAny_builtin F.entry_set_update_loop ?_
    rw [Around.under_plainId F.plain_set_update_loop _]
    show wpAny _ A.in1 (pyNext (.ref I) >>= _) _ _ s1
    refine wpAny_bind (Wk.done s1 _ _ st fun s' m' => ?_)
    exact wpAny_pure (fin s s' as es ep t (Moved.trans Wk.gtrans m (m'.mono wide)) (Hd.other fun o e => m'.heap S o sw e) U (step m' x) rfl)
  | succ k ih =>
    rintro i s1 hk hi st x m ⟨as, es, ep, t, Hd, U⟩
    have lt : i < xs.length := by omega
    refine codeAny_builtin F.entry_set_update_loop ?_
    rw [Around.under_plainId F.plain_set_update_loop _]
    show wpAny _ A.in1 (pyNext (.ref I) >>= _) _ _ s1
    refine wpAny_bind (Wk.item i s1 _ _ lt st fun v s' hv st' m' => ?_)
    obtain ⟨y, hy, rfl⟩ := val i v hv
    have ty := tx y (List.mem_of_getElem? hy)
    have x' := step m' x
    have Hd' : Hold w T same th s'.heap S as es ep t := Hd.other fun o e => m'.heap S o sw e
    show wpAny _ A.in1 (holding [Value.ref y] (setAdd S (.ref y)) >>= _) _ _ s'
    refine wpAny_bind (wpAny_holding ?_)
    unfold setAdd
    refine wpAny_holding ?_
    refine wpAny_bind (L.hash A.in1 _ s' _ y ty x' hu fun tk htk => ?_)
    refine add_ok (s := { s' with toks := tk }) L Hd' x' ty hu (by have := U.few; omega) fun b h' as' es' ep' t' sb Hd2 how => ?_
    have U' : Upto same xs (i + 1) as' := by
      rcases how with ⟨⟨z, hz, sz⟩, rfl⟩ | pm
      · refine ⟨U.sub, fun j q hj e => ?_, by have := U.few; omega⟩
        by_cases c : j = i
        · subst c
          rw [hy] at e
          cases e
          exact ⟨z, hz, sz⟩
        · exact U.each j q (by omega) e
      · refine ⟨fun a ha => ?_, fun j q hj e => ?_, by rw [pm.length_eq, List.length_cons]; have := U.few; omega⟩
        · rcases List.mem_cons.mp (pm.mem_iff.mp ha) with z | z
          · rw [z]; exact List.mem_of_getElem? hy
          · exact U.sub a z
        · by_cases c : j = i
          · subst c
            rw [hy] at e
            cases e
            exact ⟨y, pm.mem_iff.mpr List.mem_cons_self, refl y⟩
          · obtain ⟨a, ha, sa⟩ := U.each j q (by omega) e
            exact ⟨a, pm.mem_iff.mpr (List.mem_cons_of_mem _ ha), sa⟩
    have x2 : Ext h0 h' := fun c o e => (sb.2 c fun z => by rw [z, hS0] at e; cases e).trans (x' c o e)
    refine wpAny_pure ⟨plainId_quiet F.plain_set_update_loop _, ih (i + 1) _ (by omega) lt (Wk.frame _ s' _ _ st' htk fun c hc o e => ?_) x2 ?_ ⟨as', es', ep', t', Hd2, U'⟩⟩
    · rw [sb.2 c fun z => hSf (z ▸ hc)]
      exact e
    · refine Moved.trans Wk.gtrans m ((m'.mono wide).then_heap htk fun c o hc e => ?_)
      rw [sb.2 c fun z => hc (by rw [z]; exact List.mem_cons_self)]
      exact e
set_option maxHeartbeats 3200000 in
/-- set(xs) -/
theorem call_set {l : Addr} {items : Array Value} {xs : List Addr} (L : El P w s.heap T same th) {Q : Value → Shared → Prop} (hh : A.handled = none) (hl : s.heap.IsList l items) (hit : items.toList = xs.map Value.ref) (tx : ∀ x ∈ xs, T x) (refl : ∀ x, same x x = true) (few : xs.length < 64) (hu : A.units + 3 < cLine)
    (h : ∀ (h' : Heap) (tk : Nat) as es ep t, Hold w T same th h' s.heap.objs.size as es ep t → Upto same xs xs.length as → Ext s.heap h' → Q (.ref s.heap.objs.size) { s with heap := h', toks := tk }) :
    wpAny (model P w) A (call (.type "set") [.ref l]) Q E s := by
  have isz : items.size = xs.length := by rw [← Array.length_toList, hit, List.length_map]
  have ns : ∀ b, s.heap.objs.size ≤ b → s.heap.get? b = none := fun b hb => by
    cases q : s.heap.get? b with
    | none => rfl
    | some o => exact absurd (Heap.lt_size q) (Nat.not_lt.mpr hb)
  obtain ⟨c, tl, hmro⟩ := F.called_set.mro
  have k1 := F.called_set.made
  have k2 := F.called_set.sub
  have k3 := F.called_set.notType
  have k4 := F.called_set.canCreate
  have k5 := F.typeCall_set_1 (.ref l)
  refine wpAny_call (codeAny_of_tree ?_)
  show wpAny _ _ (callAny (.type "set") _) _ _ _
  refine wpAny_pure ⟨Code.quiet_builtin _ (by decide +kernel), codeAny_builtin F.entry_type_call ?_⟩
  rw [Around.under_plain (weight_type_call_type "set" [.ref l] []) rfl]
  repeat (any_goals (first | assumption | wp_step))
  generalize hob : ({ cls := .type "set", dict := none, data := .set #[] 0 (.fresh 0 0 (!w.params.followText "set-order")) } : Obj) = ob
  refine codeAny_mono (code_set_led1 (.ref l) (E := E) (Q₁ := fun v s1 => v = .ref s.heap.objs.size ∧ s1 = { s with heap := s.heap.push ob }) ⟨rfl, by rw [hob]⟩) fun r s1 hr => ?_
  cases r with
  | error e => exact hr
  | ok fl =>
    cases fl with
    | ret v =>
      obtain ⟨rfl, rfl⟩ := hr
      have nf : ob.isFreed = false := by rw [← hob]; rfl
      have atS : (s.heap.push ob).get? s.heap.objs.size = some ob := Heap.get?_push_size _ nf
      have hT : Shared.TypeIs { s with heap := s.heap.push ob } (.ref s.heap.objs.size) "set" := ⟨_, atS, by rw [← hob]⟩
      have k6 := F.called_set.init.lookup
      have k7 := F.called_set.init.bind (.ref s.heap.objs.size)
      repeat (any_goals (first | assumption | wp_step))
      refine codeAny_mono (codeAny_call_builtin (R := wants (fun r s2 => r = .none ∧ ∃ h' tk as es ep t, s2 = { s with heap := h', toks := tk } ∧ Hold w T same th h' s.heap.objs.size as es ep t ∧ Upto same xs xs.length as ∧ Ext s.heap h') E) F.called_set.init.plain F.entry_set_init (check_set_init_1 hT ?_)) fun r2 s2 hr2 => ?_
      · subst hob
        obtain ⟨⟨oc, od, odt, osl⟩, hol, hcl, nl, hdl⟩ := hl
        simp only at hcl hdl
        subst hcl hdl
        have lS : l < s.heap.objs.size := Heap.lt_size hol
        have hol1 := Heap.get?_push_of_some { cls := .type "set", dict := none, data := .set #[] 0 (.fresh 0 0 (!w.params.followText "set-order")) } hol
        have hl1 : (s.heap.push { cls := .type "set", dict := none, data := .set #[] 0 (.fresh 0 0 (!w.params.followText "set-order")) }).IsList l items := ⟨_, hol1, rfl, nl, rfl⟩
        have k8 := F.sub_list_set
        have k9 := F.sub_list_frozenset
        have k10 : (Value.type "list" == Value.type "dict") = false := by decide
        unfold Builtin.«set.__init__» noKeywords Builtin.Frozenset.updateFrom
        generalize hPI : pyIter = PI
        wp_walk
        subst hPI
        refine wpAny_pyIter_list hl1 ?_
        refine wpAny_bind (wpAny_runValue ?_)
        generalize hob : ({ cls := .type "set", dict := none, data := .set #[] 0 (.fresh 0 0 (!w.params.followText "set-order")) } : Obj) = ob at atS hol1 hl1 ⊢
        have sz1 : (s.heap.push ob).objs.size = s.heap.objs.size + 1 := Heap.size_push ..
        have ne : l ≠ (s.heap.push ob).objs.size := by rw [sz1]; exact Nat.ne_of_lt (Nat.lt_succ_of_lt lS)
        have notin : s.heap.objs.size ∉ [(s.heap.push ob).objs.size, l] := by
          rw [sz1]
          simp only [List.mem_cons, List.not_mem_nil, or_false, not_or]
          exact ⟨Nat.ne_of_lt (Nat.lt_succ_self _), Nat.ne_of_gt lS⟩
        have Wk := (Walks.list (prog := P) (w := w) (show A.in1.in1.in1.handled = none by simp [hh]) _ l ne items).toS
        rw [isz] at Wk
        refine fill_ok L Wk notin few (fun i v hv => ?_) tx refl (ns _ (Nat.le_refl _)) (fun b hb => ns b ?_) hu (fun s0 s' as es ep t m Hd U x e0 => ?_) xs.length 0 _ (by omega) (Nat.zero_le _) ⟨⟨_, Heap.get?_push_size _ rfl, rfl, rfl⟩, hl1.push _⟩ (fun b o e => Heap.get?_push_of_some _ (Heap.get?_push_of_some _ e)) (Moved.refl Wk.grefl) ⟨[], #[], 0, _, hold_new (by
          rw [hob]
          exact Heap.get?_push_of_some _ atS), ⟨fun a ha => (by cases ha), fun j q hj => absurd hj (Nat.not_lt_zero _), Nat.le_refl _⟩⟩
        · have q : items.toList[i]? = some v := by rw [Array.getElem?_toList]; exact hv
          rw [hit, List.getElem?_map, Option.map_eq_some_iff] at q
          obtain ⟨y, e1, rfl⟩ := q
          exact ⟨y, e1, rfl⟩
        · rw [List.mem_singleton.mp hb, sz1]
          exact Nat.le_succ _
        · subst e0
          obtain ⟨h', g', d', tk', os'⟩ := s'
          have e1 : g' = s.gens := m.gens
          have e2 : d' = s.drawn := m.drawn
          have e3 : os' = s.os := m.os
          subst e1 e2 e3
          show wpAny _ _ _ _ _ _
          refine wpAny_pure ?_
          show wpAny _ _ (ret Value.none) _ _ _
          exact wpAny_pure ⟨rfl, h', tk', as, es, ep, t, rfl, Hd, U, x⟩
      · cases r2 with
        | error e => exact hr2
        | ok fl2 =>
          cases fl2 with
          | ret r =>
            obtain ⟨rfl, h', tk, as, es, ep, t, rfl, Hd, U, x⟩ := hr2
            repeat (any_goals (first | assumption | wp_step))
            exact h h' tk as es ep t Hd U x
          | _ => exact hr2.elim
    | _ => exact hr.elim
end
end Bs
namespace Bs
open PySem PySem.Spec PyProof.Rows L2
section
variable {P : Program} {w : World} {A : Around} {E : Value → Shared → Prop} {s : Shared}
abbrev Tk (P : Program) (w : World) (h : Heap) (ks : List Key) (a : Addr) : Prop := IsTupleKey (mixKind P w) h ks a
theorem Tk.ext {h h' : Heap} {ks : List Key} {a : Addr} (x : Ext h h') (k : Tk P w h ks a) : Tk P w h' ks a := by
  obtain ⟨o, its, n, ho, r⟩ := k
  exact ⟨o, its, n, x a o ho, r⟩
/-- an int or a text -/
def Pln (v : Value) : Prop := (∃ i t, v = .int i t) ∨ ∃ x t, v = .str x t
theorem plns : ∀ {ks : List Key} {vs : List Value}, ItemsAre (mixKind P w) ks vs → ∀ v ∈ vs, Pln v
  | _, _, .nil, v, hv => by cases hv
  | _, _, .cons h1 t, v, hv => by
    rcases List.mem_cons.mp hv with e | hv
    · subst e
      rcases keyIs_shape h1 with ⟨i, tk, e1, _⟩ | ⟨x, tk, e1, _⟩
      · first | exact .inl ⟨i, tk, e1⟩ | exact .inl ⟨i, tk, by assumption⟩
      · first | exact .inr ⟨x, tk, e1⟩ | exact .inr ⟨x, tk, by assumption⟩
    · exact plns t v hv
theorem pln_cls {v : Value} (h : Pln v) (n : Nat) : ofAClassStatement n v = pure false := by
  rcases h with ⟨i, t, rfl⟩ | ⟨x, t, rfl⟩ <;> cases n <;> rfl
theorem pln_hash {v : Value} (h : Pln v) (n : Nat) : ∃ b, hashByValue n v = pure b := by
  rcases h with ⟨i, t, rfl⟩ | ⟨x, t, rfl⟩
  · exact ⟨true, by cases n <;> rfl⟩
  · exact ⟨false, by cases n <;> rfl⟩
theorem tk_cls {ks : List Key} {b : Addr} {Q : Bool → Shared → Prop} (k : Tk P w s.heap ks b) (h : Q false s) : wpAny (model P w) A (ofAClassStatement 8 (.ref b)) Q E s := by
  have hT := k.typeIs
  obtain ⟨o, its, n, ho, _, hd, hi⟩ := k
  unfold ofAClassStatement
  refine wpAny_bind (wpAny_typeOf hT ?_)
  dsimp only
  simp only [beq_self_eq_true, if_true]
  try refine wpAny_bind (wpAny_pure ?_)
  try simp only [Bool.not_true, Bool.false_eq_true, if_false]
  show wpAny _ _ (seqItems? (.ref b) >>= _) _ _ s
  refine wpAny_bind (wpAny_seqItems ho hd ?_)
  dsimp only
  refine wpAny_bind ?_
  show wpAny _ _ (forIn its _ _) _ _ s
  rw [← Array.forIn_toList]
  refine wpAny_forIn_list _ (fun rest r s' => r.1 = none ∧ s' = s ∧ ∀ v ∈ rest, Pln v) _ ?_ ?_ _ _ ⟨rfl, rfl, plns hi⟩
  · rintro v rest r s' ⟨hr, rfl, all⟩
    rw [pln_cls (all v List.mem_cons_self)]
    refine wpAny_bind (wpAny_pure ?_)
    simp only [Bool.false_eq_true, if_false]
    exact wpAny_pure ⟨rfl, rfl, fun u hu => all u (List.mem_cons_of_mem _ hu)⟩
  · rintro ⟨r1, r2⟩ s' ⟨hr, rfl, _⟩
    simp only at hr
    subst hr
    exact wpAny_pure h
theorem tk_byv {ks : List Key} {b : Addr} {Q : Bool → Shared → Prop} (k : Tk P w s.heap ks b) (h : ∀ c, Q c s) : wpAny (model P w) A (hashByValue 8 (.ref b)) Q E s := by
  have hT := k.typeIs
  obtain ⟨o, its, n, ho, _, hd, hi⟩ := k
  unfold hashByValue
  refine wpAny_bind (wpAny_specialOf hT F.slot_tuple_hash.lookup ?_)
  show wpAny _ _ (seqItems? (.ref b) >>= _) _ _ s
  refine wpAny_bind (wpAny_seqItems ho hd ?_)
  refine wpAny_bind ?_
  show wpAny _ _ (forIn its _ _) _ _ s
  rw [← Array.forIn_toList]
  refine wpAny_forIn_list _ (fun rest r s' => s' = s ∧ ∀ v ∈ rest, Pln v) _ ?_ ?_ _ _ ⟨rfl, plns hi⟩
  · rintro v rest r s' ⟨rfl, all⟩
    obtain ⟨c, e⟩ := pln_hash (all v List.mem_cons_self) 7
    rw [e]
    refine wpAny_bind (wpAny_pure ?_)
    cases c
    · simp only [Bool.not_false, if_true]
      exact wpAny_pure (wpAny_pure (h false))
    · simp only [Bool.not_true, Bool.false_eq_true, if_false]
      exact wpAny_pure ⟨rfl, fun u hu => all u (List.mem_cons_of_mem _ hu)⟩
  · rintro ⟨r1, r2⟩ s' ⟨rfl, _⟩
    cases r1 <;> exact wpAny_pure (h _)
theorem tk_calm {ks : List Key} {b : Addr} {Q : Bool → Shared → Prop} (k : Tk P w s.heap ks b) {ys : List Value} (hy : ∀ y ∈ ys, ∃ c ks', y = .ref c ∧ Tk P w s.heap ks' c) (h : Q false s) : wpAny (model P w) A (searchCouldBeSeen (.ref b) ys) Q E s := by
  unfold searchCouldBeSeen
  refine wpAny_bind ?_
  refine wpAny_forIn_list _ (fun rest r s' => r.1 = none ∧ s' = s ∧ ∀ y ∈ rest, ∃ c ks', y = Value.ref c ∧ Tk P w s.heap ks' c) _ ?_ ?_ _ _ ⟨rfl, rfl, hy⟩
  · rintro v rest r s' ⟨hr, rfl, all⟩
    obtain ⟨c, ks', rfl, kc⟩ := all v List.mem_cons_self
    have more : ∀ y ∈ rest, ∃ c ks', y = Value.ref c ∧ Tk P w s'.heap ks' c := fun u hu => all u (List.mem_cons_of_mem _ hu)
    dsimp only
    by_cases q : (b == c || (carriedByValue (.ref b) && carriedByValue (.ref c))) = true
    · exact wp_if_pos q (wpAny_pure ⟨rfl, rfl, more⟩)
    · refine wp_if_neg q (wpAny_bind (wpAny_eqIsQuiet_tuple k ?_))
      simp only [Bool.not_true, Bool.false_eq_true, if_false]
      refine wpAny_bind (wpAny_eqIsQuiet_tuple kc ?_)
      simp only [Bool.not_true, Bool.false_eq_true, if_false]
      refine wpAny_bind (tk_cls k ?_)
      simp only [Bool.false_eq_true, if_false]
      refine wpAny_bind (tk_cls kc ?_)
      simp only [Bool.false_eq_true, if_false]
      exact wpAny_pure ⟨rfl, rfl, more⟩
  · rintro ⟨r1, r2⟩ s' ⟨hr, rfl, _⟩
    simp only at hr
    subst hr
    exact wpAny_pure h
/-- kf tells each one's ints and texts -/
theorem el_tk (P : Program) (w : World) (h0 : Heap) (kf : Addr → List Key) : El P w h0 (fun a => Tk P w h0 (kf a) a) (fun a b => decide (kf a = kf b)) (fun a => tupleKeyHash (mixKind P w) (kf a)) where
  cong := fun a b _ _ e => congrArg _ (of_decide_eq_true e)
  trans := fun a b c x y => decide_eq_true ((of_decide_eq_true x).trans (of_decide_eq_true y))
  symm := fun a b x => decide_eq_true (of_decide_eq_true x).symm
  eq := fun A E s Q a b ta tb x hu q => wpAny_eqBool_tuple hu (ta.ext x) (tb.ext x) q
  calm := fun A E s Q x ys tx hy e q => tk_calm (Tk.ext e tx) (fun y h => let ⟨b, e1, tb⟩ := hy y h; ⟨b, _, e1, Tk.ext e tb⟩) q
  byv := fun A E s Q x tx e q => tk_byv (Tk.ext e tx) q
  hash := fun A E s Q x tx e hu q => wpAny_pyHash_tuple hu (Tk.ext e tx) (q _ (Nat.le_add_right _ _))
end
end Bs
namespace Bs
open PySem PySem.Spec PyProof.Rows L2
/-- the set at S has the objects bs -/
def SetP (w : World) (bs : List Addr) (S : Addr) (h : Heap) : Prop := ∃ (o : Obj) (es : Array (Int × Value)) (ep : Nat) (t : SetTable), h.get? S = some o ∧ o.ExactSet ∧ o.data = .set es ep t ∧ es.toList.map (·.2) = bs.map Value.ref ∧ t.fits es.size = true ∧ es.size < scanBound ∧ Ris t.place.toList ∧ (w.params.followText "set-order" = true ∨ t.led = true)
def SetO (w : World) (bs : List Addr) (S : Addr) : HO := .ext (SetP w bs S)
theorem setO_ok {P : Program} {w : World} {H : Hp} {h : Heap} {bs : List Addr} {S : Addr} (x : SetP w bs S h) : ObjOk P w H h S (SetO w bs S) := by
  have ⟨o, es, ep, t, ho, r⟩ := x
  refine ⟨x, ⟨o, ho⟩, fun h1 h2 p k => ?_⟩
  have ⟨o', es', ep', t', ho', r'⟩ : SetP w bs S h1 := p
  exact ⟨o', es', ep', t', k o' ho', r'⟩
def vKey : V → Option Key
  | .int i => some (.inl i)
  | .str x => some (.inr x)
  | _ => none
def kfH (H : Hp) (a : Addr) : List Key := match H a with
  | some (.tup vs) => vs.filterMap vKey
  | _ => []
theorem back_refs : ∀ {out : List Value} {bs : List Addr}, out.Perm (bs.map Value.ref) → ∃ bs' : List Addr, bs'.Perm bs ∧ out = bs'.map Value.ref := by
  intro out bs pm
  let inv : Value → Option Addr := fun v => match v with | .ref a => some a | _ => none
  have e1 : ∀ l : List Addr, (l.map Value.ref).filterMap inv = l := fun l => by
    induction l with
    | nil => rfl
    | cons a l ih => rw [List.map_cons, List.filterMap_cons_some (f := inv) (b := a) (a := Value.ref a) rfl, ih]
  have p2 := pm.filterMap inv
  rw [e1] at p2
  refine ⟨_, p2, ?_⟩
  have all : ∀ v ∈ out, ∃ a, v = Value.ref a := fun v hv => by
    obtain ⟨a, _, e⟩ := List.mem_map.mp (pm.mem_iff.mp hv)
    exact ⟨a, e.symm⟩
  clear pm p2
  induction out with
  | nil => rfl
  | cons v l ih =>
    obtain ⟨a, rfl⟩ := all v List.mem_cons_self
    rw [List.filterMap_cons_some (f := inv) (b := a) (a := Value.ref a) rfl, List.map_cons, ← ih fun u hu => all u (List.mem_cons_of_mem _ hu)]
theorem items_keys {P : Program} {w : World} : ∀ {ks : List Key} {us : List Value}, Vals (ks.map kV) us → ItemsAre (mixKind P w) ks us
  | [], _, .nil => .nil
  | k :: ks, _, .cons r t => .cons (kV_is r) (items_keys t)
theorem vals_refs : ∀ (as : List Addr), Vals (as.map V.ref) (as.map Value.ref)
  | [] => .nil
  | a :: as => .cons rfl (vals_refs as)
theorem refs_vals : ∀ {as : List Addr} {us : List Value}, Vals (as.map V.ref) us → us = as.map Value.ref
  | [], _, .nil => rfl
  | a :: as, _, .cons r t => by
    cases r
    rw [refs_vals t]
    rfl
def rowP (p : Int × Str) : PyData := .tuple [.int p.1, .str p.2]
section
variable {X : Cx}
/-- set(xs), xs a list of tuples of ints and texts that stand in H -/
def rSetK (K : PySem.W.Frag) (w : World) : List V → Hp → VK → Prop := fun xs H Q => ∃ (l : Addr) (as : List Addr), xs = [V.ref l] ∧ SqL K H l (as.map V.ref) ∧ (∀ a ∈ as, H a = some (.tup ((kfH H a).map kV))) ∧ as.length < 64 ∧
  ∀ S bs, H S = none → (∀ b ∈ bs, b ∈ as) → (∀ a ∈ as, ∃ b ∈ bs, kfH H b = kfH H a) → (bs.Pairwise fun a b => kfH H a ≠ kfH H b) → bs.length ≤ as.length → Q (.ref S) (upd H S (SetO w bs S))
theorem cr_setK (hc : X.calm = true) (hu : X.A.units + 64 < cLine) : CallR X (.type "set") (rSetK X.K X.w) := by
  intro pins s σ H xs us Q I r h
  obtain ⟨l, as, rfl, hl, ht, few, q⟩ := h
  rw [Vals.ref1 r]
  obtain ⟨its, rv, pl, hz⟩ := I.list hl
  have hn : H s.heap.objs.size = none := I.hok.fresh (Nat.le_refl _)
  have tk : ∀ a ∈ as, Tk X.prog X.w s.heap (kfH H a) a := fun a ha => by
    obtain ⟨its, r, ⟨o, ho, hc, n, hd⟩, _⟩ := I.tuple (.inl (.inl (ht a ha)))
    exact ⟨o, its.toArray, n, ho, hc, hd, by simpa using items_keys r⟩
  refine call_set (el_tk X.prog X.w s.heap (kfH H)) (I.ok.hd hc) pl.isList (by simpa using refs_vals rv) tk (fun x => by simp) few (by omega) fun h' tk' bs es ep t Hd U x => ?_
  refine ⟨.ref s.heap.objs.size, upd H s.heap.objs.size (SetO X.w bs s.heap.objs.size), I.laid (t' := tk') x (Nat.le_refl _) (setO_ok ?_), rfl, q _ bs hn U.sub (fun a ha => ?_) ?_ U.few⟩
  · obtain ⟨o, ho, hex, hd⟩ := Hd.ob
    refine ⟨o, es, ep, t, ho, hex, hd, ?_, Hd.fits, ?_, Hd.tab.ris, Hd.led⟩
    · rw [Hd.rows, List.map_map]
      rfl
    · rw [Hd.size]
      have := Hd.few
      unfold scanBound
      omega
  · obtain ⟨j, hj, e⟩ := List.getElem_of_mem ha
    obtain ⟨b, hb, sb⟩ := U.each j a hj (by rw [List.getElem?_eq_getElem hj, e])
    exact ⟨b, hb, of_decide_eq_true sb⟩
  · exact Hd.apart.imp fun z e => by rw [decide_eq_true e] at z; cases z
/-- sorted(set), its objects tuples (int, text) -/
def rSrtK (w : World) : List V → Hp → VK → Prop := fun vs H Q => ∃ (S : Addr) (bs : List Addr) (kf : Addr → Int × Str), vs = [V.ref S] ∧ H S = some (SetO w bs S) ∧ (∀ b ∈ bs, H b = some (.tup [.int (kf b).1, .str (kf b).2])) ∧ bs.length < 64 ∧
  ∀ (bs' : List Addr) (p : Addr), bs'.Perm bs → H p = none → Q (.ref p) (upd H p (.lst ((bs'.mergeSort (PySem.W.dataLe false fun a => rowP (kf a))).map V.ref)))
theorem cr_srtK (hc : X.calm = true) (hu : X.A.units + 64 < cLine) : CallR X (.builtin "sorted") (rSrtK X.w) := by
  intro pins s σ H vs us Q I r h
  obtain ⟨S, bs, kf, rfl, hS, ht, few, q⟩ := h
  rw [Vals.ref1 r]
  obtain ⟨o, es, ep, t, ho, hex, hd, hv, hf, hsz, ris, led⟩ : SetP X.w bs S s.heap := (I.hok S _ hS).1
  have rd : ∀ b ∈ bs, ∀ h' : Heap, (∀ c o, s.heap.get? c = some o → h'.get? c = some o) → ∃ xs, Reads h' (.ref b) (rowP (kf b)) xs ∧ ∀ c, c ∉ xs := fun b hb h' k => by
    obtain ⟨its, r, ⟨o, ho, hc, n, hd⟩, _⟩ := I.tuple (.inl (.inl (ht b hb)))
    match its, r with
    | [u1, u2], .cons r1 (.cons r2 .nil) =>
      obtain ⟨t1, rfl⟩ := r1
      obtain ⟨t2, rfl⟩ := r2
      exact ⟨_, .tuple (k b o ho) hc hd (.cons (.int _ t1) (.cons (.str _ t2) .nil)), fun c => by simp⟩
  refine Calls.call_function_entry kind_sorted plain_sorted entry_sorted (args_sorted1 _) ?_
  unfold Builtin.«sorted»
  refine wpAny_bind (m := checkCount "sorted" 1 1 _) (wpAny_pure ?_)
  refine wpAny_bind (collect_set (A := X.A.in1) (I.ok.hd hc) ⟨o, ho, hex.1, hd⟩ hf hsz ris led fun s1 out k1 hz1 g1 o1 pm => ?_)
  rw [hv] at pm
  obtain ⟨bs', pb, rfl⟩ := back_refs pm
  have few' : bs'.length < 64 := by rw [pb.length_eq]; exact few
  have sl : 64 ≤ sizeLine := by decide
  refine wpAny_bind (wpAny_newList ?_ (by rw [List.length_map]; omega))
  have atL : (s1.heap.push (seqObj "list" (bs'.map Value.ref).toArray 0)).get? s1.heap.objs.size = some (seqObj "list" (bs'.map Value.ref).toArray 0) := Heap.get?_push_size _ rfl
  have keep : ∀ c o, s.heap.get? c = some o → (s1.heap.push (seqObj "list" (bs'.map Value.ref).toArray 0)).get? c = some o := fun c o e => Heap.get?_push_of_some _ (k1 c o e)
  have each : ∀ {R : Value → Addr → Prop} (l : List Addr), (∀ b ∈ l, R (.ref b) b) → PySem.W.EachIs R (l.map Value.ref) l := fun {R} l hl => by
    induction l with
    | nil => exact .nil
    | cons b l ih => exact .cons (hl b List.mem_cons_self) (ih fun c hc => hl c (List.mem_cons_of_mem _ hc))
  refine wpAny_bind (wpAny_holding (PySem.W.list_sort_data (s := { s1 with heap := s1.heap.push (seqObj "list" (bs'.map Value.ref).toArray 0) }) (R := fun v b => v = Value.ref b) (enc := fun a => rowP (kf a)) atL (each bs' fun _ _ => rfl)
    (each bs' fun b hb => let ⟨xs, r, n⟩ := rd b (pb.mem_iff.mp hb) _ keep; ⟨xs, r, n _⟩) ?_ ?_ (by omega) (fun b hb => ?_) fun out' ho' eo => ?_))
  · intro d hd d' hd'
    obtain ⟨a, _, rfl⟩ := List.mem_map.mp hd
    obtain ⟨b, _, rfl⟩ := List.mem_map.mp hd'
    rfl
  · refine .inl fun d hd => ?_
    obtain ⟨a, _, rfl⟩ := List.mem_map.mp hd
    exact ⟨_, _, rfl⟩
  · have e : (rowP (kf b)).depth ≤ 2 := by simp [rowP, PyData.depth, PyData.depthAll]
    show X.A.units + 1 + 1 + (rowP (kf b)).depth < cLine
    omega
  · have e2 : out' = (bs'.mergeSort (PySem.W.dataLe false fun a => rowP (kf a))).map Value.ref := by
      generalize bs'.mergeSort (PySem.W.dataLe false fun a => rowP (kf a)) = l at eo
      clear ho'
      induction eo with
      | nil => rfl
      | cons h _ ih => rw [h, ih]; rfl
    subst e2
    generalize hl : bs'.mergeSort (PySem.W.dataLe false fun a => rowP (kf a)) = l
    have len : l.length = bs'.length := by rw [← hl, List.length_mergeSort]
    obtain ⟨c, hc'⟩ := sortedHeap_at (vs := bs'.map Value.ref) (out := (l.map Value.ref).toArray) atL
    have kept : ∀ b u, s.heap.get? b = some u → (sortedHeap (s1.heap.push (seqObj "list" (bs'.map Value.ref).toArray 0)) s1.heap.objs.size (bs'.map Value.ref) (l.map Value.ref).toArray).get? b = some u := fun b u e => by
      have lt := Heap.lt_size (k1 b u e)
      rw [sortedHeap_old (Nat.ne_of_lt lt) (by rw [Heap.size_push]; exact Nat.lt_succ_of_lt lt)]
      exact keep b u e
    have hn : H s1.heap.objs.size = none := I.hok.fresh hz1
    have J := I.call' (H' := upd H s1.heap.objs.size (.lst (l.map V.ref))) (ch := []) (s' := { s1 with heap := sortedHeap (s1.heap.push (seqObj "list" (bs'.map Value.ref).toArray 0)) s1.heap.objs.size (bs'.map Value.ref) (l.map Value.ref).toArray }) o1 (Un.laid kept hz1 hn)
      (I.hok.laid kept hz1 ⟨by rw [List.length_map]; omega, l.map Value.ref, c, vals_refs l, hc'⟩) (by show AllBare s1.gens; rw [g1]; exact I.bare) (fun _ z => nomatch z)
    exact wpAny_pure ⟨_, rfl, .ref _, _, J, rfl, by have z := q bs' _ pb hn; rw [hl] at z; exact z⟩
end
end Bs
namespace Bx
open PySem PySem.Spec PyProof.Rows L2 Bs
/-- the order of rows -/
def ple (p q : Int × Str) : Bool := decide (p.1 < q.1 ∨ (p.1 = q.1 ∧ p.2.cps.toList ≤ q.2.cps.toList))
theorem str_ext {x y : Str} (e : x.cps.toList = y.cps.toList) : x = y := by
  cases x with | mk a => cases y with | mk b => cases a with | mk l => cases b with | mk m => simp at e; rw [e]
theorem ple_data (p q : Int × Str) : (!PySem.W.dataLt (rowP q) (rowP p)) = ple p q := by
  unfold rowP ple
  rw [PySem.W.dataLt_pair (by simp [PySem.W.alike]) (by simp [PySem.W.alike]), PySem.W.dataLt_int, PySem.W.dataLt_str]
  simp only [PyData.eqv, beq_iff_eq]
  by_cases h1 : q.1 = p.1
  · by_cases h2 : q.2 = p.2
    · simp [h1, h2]
    · have h3 : ¬ p.1 < q.1 := by omega
      simp only [h1, h2, if_true, if_false]
      rw [PySem.W.not_lt_str]
      simp
  · have h4 : ¬ p.1 = q.1 := fun e => h1 e.symm
    simp only [h1, h4, if_false, false_and, or_false]
    by_cases h5 : q.1 < p.1
    · have h6 : ¬ p.1 < q.1 := by omega
      simp [h5, h6]
    · have h6 : p.1 < q.1 := by omega
      simp [h5, h6]
theorem ple_le (p q : Int × Str) : PySem.W.dataLe false rowP p q = ple p q := ple_data p q
theorem ple_trans (a b c : Int × Str) (h1 : ple a b = true) (h2 : ple b c = true) : ple a c = true := by
  simp only [ple, decide_eq_true_eq] at *
  rcases h1 with h1 | ⟨h1, k1⟩
  · rcases h2 with h2 | ⟨h2, k2⟩ <;> left <;> omega
  · rcases h2 with h2 | ⟨h2, k2⟩
    · left; omega
    · right; exact ⟨h1.trans h2, List.le_trans k1 k2⟩
theorem ple_total (a b : Int × Str) : (ple a b || ple b a) = true := by
  simp only [ple, Bool.or_eq_true, decide_eq_true_eq]
  by_cases h1 : a.1 < b.1
  · exact .inl (.inl h1)
  · by_cases h2 : b.1 < a.1
    · exact .inr (.inl h2)
    · have e : a.1 = b.1 := by omega
      rcases List.le_total a.2.cps.toList b.2.cps.toList with h | h
      · exact .inl (.inr ⟨e, h⟩)
      · exact .inr (.inr ⟨e.symm, h⟩)
theorem ple_anti {a b : Int × Str} (h1 : ple a b = true) (h2 : ple b a = true) : a = b := by
  simp only [ple, decide_eq_true_eq] at *
  rcases h1 with h1 | ⟨h1, k1⟩
  · rcases h2 with h2 | ⟨h2, _⟩ <;> omega
  · rcases h2 with h2 | ⟨_, k2⟩
    · omega
    · exact Prod.ext h1 (str_ext (List.le_antisymm k1 k2))
theorem srt_perm {l m : List (Int × Str)} (h : l.Perm m) : l.mergeSort ple = m.mergeSort ple :=
  List.Perm.eq_of_pairwise (le := fun a b => ple a b = true) (fun a b _ _ h1 h2 => ple_anti h1 h2) (List.pairwise_mergeSort ple_trans ple_total l) (List.pairwise_mergeSort ple_trans ple_total m) ((List.mergeSort_perm l ple).trans (h.trans (List.mergeSort_perm m ple).symm))
def rowD (p : Int × Str) : D := .tup [.int p.1, .str p.2]
def prS : D → Option (Int × Str)
  | .tup [.int i, .str x] => some (i, x)
  | _ => none
def prSs : List D → Option (List (Int × Str))
  | [] => some []
  | d :: ds => match prS d, prSs ds with | some p, some ps => some (p :: ps) | _, _ => none
theorem prS_eq {d : D} {p : Int × Str} (e : prS d = some p) : d = rowD p := by
  unfold prS at e
  split at e
  · cases e; rfl
  · cases e
theorem prSs_eq : ∀ {ds : List D} {ps : List (Int × Str)}, prSs ds = some ps → ds = ps.map rowD
  | [], _, e => by cases e; rfl
  | d :: ds, ps, e => by
    simp only [prSs] at e
    split at e
    · rename_i e1 e2
      cases e
      rw [prS_eq e1, prSs_eq e2]
      rfl
    · cases e
@[simp] theorem prSs_map (ps : List (Int × Str)) : prSs (ps.map rowD) = some ps := by
  induction ps with
  | nil => rfl
  | cons p ps ih => simp only [List.map_cons, prSs, ih]; rfl
def srtS (ps : List (Int × Str)) : List (Int × Str) := ps.eraseDups.mergeSort ple
def xSrtSet (f : Fn) : Fn := fun ρ h => (f ρ h).bind fun d h1 => match asL h1 d with
  | some ds => match prSs ds with
    | some ps => if decide (ps.length < 64) then .ok (.lst ((srtS ps).map rowD)) h1 else .bad
    | none => .bad
  | none => .bad
theorem erase_nodup : ∀ (n : Nat) (l : List (Int × Str)), l.length ≤ n → l.eraseDups.Nodup
  | _, [], _ => by simp
  | 0, a :: l, h => by simp at h
  | n + 1, a :: l, h => by
    rw [List.eraseDups_cons]
    refine List.nodup_cons.mpr ⟨fun z => ?_, erase_nodup n _ ?_⟩
    · have := (List.mem_filter.mp (List.mem_eraseDups.mp z)).2
      simp at this
    · have := List.length_filter_le (fun b => !b == a) l
      simp only [List.length_cons] at h
      omega
section
variable {g : Gx} {W : WX} {X : Cx} {w : Wd} {H : Hp}
theorem rows_at : ∀ {ps : List (Int × Str)} {vs : List V}, RVs g w H (ps.map rowD) vs → ∃ as : List Addr, vs = as.map V.ref ∧ as.length = ps.length ∧ ∀ (i : Nat) (a : Addr), as[i]? = some a → ∃ p, ps[i]? = some p ∧ H a = some (.tup [.int p.1, .str p.2])
  | [], _, .nil => ⟨[], rfl, rfl, fun i a e => by simp at e⟩
  | p :: ps, _, .cons r t => by
    obtain ⟨a, us, rfl, ha, t2⟩ := rv_tup r
    obtain ⟨x, y, rfl, rx, ry⟩ := rvs2 t2
    cases rx
    cases ry
    obtain ⟨as, rfl, hl, k⟩ := rows_at t
    refine ⟨a :: as, rfl, by simp [hl], fun i b e => ?_⟩
    cases i with
    | zero =>
      simp at e
      subst e
      exact ⟨p, rfl, ha⟩
    | succ i => exact k i b (by simpa using e)
theorem q_srtset {e : Expr} {f : Fn} {p p1 pos pos1 : Pos} (xo : XO g X) (hg : Gl X "sorted") (hm : g.mg "sorted" = none) (hg1 : Gl X "set") (hm1 : g.mg "set" = none) (he : PE X e (tI g W f)) (hs : starEach [e] X.env = [(false, eval e X.env)] := by rfl)
    (hs1 : starEach [.Call (.Name "set" p1) [e] [] pos1] X.env = [(false, eval (.Call (.Name "set" p1) [e] [] pos1) X.env)] := by rfl) :
    PE X (.Call (.Name "sorted" p) [.Call (.Name "set" p1) [e] [] pos1] [] pos) (tI g W (xSrtSet f)) := by
  have hu : X.A.units + 64 < cLine := by have := xo.un; omega
  have in1 := pe_callTy (p := p1) (pos := pos1) (cr_setK xo.calm hu) hg1 (by rw [xo.mg]; exact hm1) (by decide +kernel) (pa_cons he pa_nil hs) (by decide +kernel) (by decide +kernel) hs
  have out := pe_callB (p := p) (pos := pos) (cr_srtK xo.calm hu) hg (by rw [xo.mg]; exact hm) (by decide +kernel) (pa_cons in1 pa_nil hs1) (by decide +kernel) (by decide +kernel) hs1
  refine ⟨fun pins s σ H Q I ⟨w, ρ, h, sr, o⟩ => out.run pins s σ H Q I (tI_go sr o fun V H1 w1 d h1 l sr1 rv o1 => ?_)⟩
  split at o1
  · rename_i ds e1
    split at o1
    · rename_i ps e2
      split at o1
      · rename_i hz
        obtain ⟨q, vs, rfl, hq, t⟩ := asL_ok e1 sr1.hr rv
        have e3 := prSs_eq e2
        subst e3
        obtain ⟨as, rfl, hl, hrow⟩ := rows_at t
        have kf : ∀ a ∈ as, ∃ p ∈ ps, H1 a = some (.tup [.int p.1, .str p.2]) := fun a ha => by
          obtain ⟨i, hi, e⟩ := List.getElem_of_mem ha
          obtain ⟨p, e4, e5⟩ := hrow i a (by rw [List.getElem?_eq_getElem hi, e])
          exact ⟨p, List.mem_of_getElem? e4, e5⟩
        have kH : ∀ (a : Addr) (p : Int × Str), H1 a = some (.tup [.int p.1, .str p.2]) → kfH H1 a = [.inl p.1, .inr p.2] := fun a p e => by simp [kfH, e, vKey]
        let key : Addr → Int × Str := fun a => match H1 a with | some (.tup [.int i, .str x]) => (i, x) | _ => (0, "")
        have keyOf : ∀ (a : Addr) (p : Int × Str), H1 a = some (.tup [.int p.1, .str p.2]) → key a = p := fun a p e => by simp [key, e]
        refine ⟨q, as, rfl, .inl (.inl hq), fun a ha => ?_, by rw [hl]; exact of_decide_eq_true hz, fun S bs hS sub all ap few => ?_⟩
        · obtain ⟨p, _, e⟩ := kf a ha
          rw [kH a p e, e]
          rfl
        · have hb : ∀ b ∈ bs, H1 b = some (.tup [.int (key b).1, .str (key b).2]) := fun b hb => by
            obtain ⟨p, _, e⟩ := kf b (sub b hb)
            rw [keyOf b p e]
            exact e
          have neS : ∀ b ∈ bs, b ≠ S := fun b h z => by
            have := hb b h
            rw [z, hS] at this
            cases this
          refine ⟨S, bs, key, rfl, upd_same, fun b h => by rw [upd_ne (neS b h)]; exact hb b h, by have := of_decide_eq_true hz; omega, fun bs' pp pb hp => ?_⟩
          have hr2 := hr_new (o := SetO X.w bs S) sr1.hr hS
          have l2 := later_new (o := SetO X.w bs S) sr1.hr hS
          have perm : (bs'.map key).Perm ps.eraseDups := by
            refine (List.perm_ext_iff_of_nodup ?_ (erase_nodup _ ps (Nat.le_refl _))).mpr fun p => ?_
            · refine ((pb.map key).nodup_iff).mpr (List.pairwise_map.mpr (List.Pairwise.imp_of_mem (fun {a b} ha hb2 hne e => hne ?_) ap))
              rw [kH a (key a) (hb a ha), kH b (key b) (hb b hb2), e]
            · rw [List.mem_eraseDups, List.mem_map]
              constructor
              · rintro ⟨b, h, rfl⟩
                have h' := pb.mem_iff.mp h
                obtain ⟨p, hp', e⟩ := kf b (sub b h')
                rw [keyOf b p e]
                exact hp'
              · intro hp'
                obtain ⟨i, hi, e⟩ := List.getElem_of_mem hp'
                have hi2 : i < as.length := by rw [hl]; exact hi
                obtain ⟨p2, e4, e5⟩ := hrow i as[i] (List.getElem?_eq_getElem hi2)
                have e6 : p2 = p := by
                  rw [List.getElem?_eq_getElem hi, e] at e4
                  exact (Option.some.inj e4).symm
                subst e6
                obtain ⟨b, hb1, e7⟩ := all as[i] (List.getElem_mem hi2)
                rw [kH _ p2 e5, kH b (key b) (hb b hb1)] at e7
                refine ⟨b, pb.mem_iff.mpr hb1, ?_⟩
                simp at e7
                exact Prod.ext e7.1 e7.2
          have eq : (bs'.mergeSort (PySem.W.dataLe false fun a => rowP (key a))).map key = srtS ps := by
            unfold srtS
            rw [← srt_perm perm]
            exact List.map_mergeSort fun a _ b _ => (ple_le (key a) (key b))
          generalize hL : bs'.mergeSort (PySem.W.dataLe false fun a => rowP (key a)) = L at eq ⊢
          have memL : ∀ b ∈ L, b ∈ bs := fun b h => by
            rw [← hL] at h
            exact pb.mem_iff.mp ((List.mergeSort_perm bs' _).mem_iff.mp h)
          rw [← eq] at o1
          refine OKg.lst (o1.mono l2) hr2 ?_ pp hp
          clear eq hL o1
          induction L with
          | nil => exact .nil
          | cons b L ih =>
            refine .cons (.tup (vs := [.int (key b).1, .str (key b).2]) ?_ (.cons (.int _) (.cons (.str _) .nil))) (ih fun c hc => memL c (List.mem_cons_of_mem _ hc))
            have h' := memL b List.mem_cons_self
            rw [upd_ne (neS b h')]
            exact hb b h'
      · exact o1.elim
    · exact o1.elim
  · exact o1.elim
end
end Bx
namespace Bx
open PySem PySem.Spec PyProof.Rows L2
def xGo (f : Fn) : Fn := fun ρ h => (f ρ h).bind fun d h1 => match d with
  | .ref n => match h1[n]? with
    | some (.lst ds) => .ok (.lst ds) (h1.set n .gone)
    | _ => .bad
  | d => .ok d h1
theorem q_go {g : Gx} {W : WX} {X : Cx} {e : Expr} {f : Fn} (he : PE X e (tI g W f)) : PE X e (tI g W (xGo f)) := ⟨fun pins s σ H Q I ⟨w, ρ, h, sr, o⟩ => he.run pins s σ H Q I (tI_go sr o fun V H1 w1 d h1 l sr1 rv o1 => by
  cases d with
  | ref n =>
    simp only at o1
    split at o1
    · rename_i ds e1
      cases rv with
      | @ref _ a ha =>
        obtain ⟨nF, vs, e2, t⟩ := sr1.hr.ob n _ a e1 ha
        exact o1 (w1.frz a) H1 (.ref a) (later_frz sr1.hr) (hr_gone sr1.hr e1 ha) (.lst e2 (.inl rfl) (t.mono (later_frz sr1.hr)))
    · exact o1.elim
  | _ => exact o1.keep sr1.hr rv)⟩
end Bx
namespace Bx
open PySem PySem.Spec PyProof.Rows L2
mutual
theorem toP_any {f : Nat → Option PyData} : ∀ {d : D} {p : PyData}, toP (fun _ => none) d = some p → toP f d = some p
  | .non, p, e => e
  | .bl _, p, e => e
  | .int _, p, e => e
  | .str _, p, e => e
  | .tup ds, p, e => by
    simp only [toP, Option.map_eq_some_iff] at e ⊢
    obtain ⟨ps, e1, e2⟩ := e
    exact ⟨ps, toPs_any e1, e2⟩
  | .lst ds, p, e => by
    simp only [toP, Option.map_eq_some_iff] at e ⊢
    obtain ⟨ps, e1, e2⟩ := e
    exact ⟨ps, toPs_any e1, e2⟩
  | .dct kds, p, e => by cases kds <;> exact e
  | .ref n, p, e => by simp [toP] at e
  | .obj _ _, p, e => e
  | .exn _ _, p, e => e
  | .scr _, p, e => e
  | .val _, p, e => e
theorem toPs_any {f : Nat → Option PyData} : ∀ {ds : List D} {ps : List PyData}, toPs (fun _ => none) ds = some ps → toPs f ds = some ps
  | [], ps, e => e
  | d :: ds, ps, e => by
    simp only [toPs] at e ⊢
    split at e
    · rename_i p qs e1 e2
      rw [toP_any e1, toPs_any e2]
      exact e
    · cases e
end
abbrev cv : D → Option PyData := toP (fun _ => none)
abbrev cvs : List D → Option (List PyData) := toPs (fun _ => none)
theorem cvs_app {l r : List D} {ps qs : List PyData} (e1 : cvs l = some ps) (e2 : cvs r = some qs) : cvs (l ++ r) = some (ps ++ qs) := by
  induction l generalizing ps with
  | nil => cases e1; exact e2
  | cons a l ih =>
    simp only [cvs, toPs] at e1
    split at e1
    · rename_i p ps2 e3 e4
      cases e1
      have := ih e4
      simp only [cvs] at this
      simp only [cvs, List.cons_append, toPs, e3, this]
    · cases e1
theorem cvs_all {P : PyData → Prop} {ds : List D} (h : ∀ d ∈ ds, ∃ p, cv d = some p ∧ P p) : ∃ ps, cvs ds = some ps ∧ ps.length = ds.length ∧ ∀ p ∈ ps, P p := by
  induction ds with
  | nil => exact ⟨[], rfl, rfl, fun p hp => by cases hp⟩
  | cons a l ih =>
    obtain ⟨p, e, hp⟩ := h a (List.mem_cons_self ..)
    obtain ⟨ps, e2, l2, h2⟩ := ih fun d hd => h d (List.mem_cons_of_mem _ hd)
    refine ⟨p :: ps, ?_, by simp [l2], fun q hq => ?_⟩
    · simp only [cv, cvs] at e e2
      simp only [cvs, toPs, e, e2]
    · rcases List.mem_cons.mp hq with rfl | hq
      · exact hp
      · exact h2 q hq
/-- how a thing's data are -/
structure Sh (n m : Nat) (p : PyData) : Prop where
  sh : p.showable = true
  le : p.shown.length ≤ n
  dp : p.depth ≤ m
structure Cl (p : PyData) : Prop where
  nd : p.hasDict = false
  nl : noL p = true
theorem sh_all {ps : List PyData} {n m : Nat} (h : ∀ p ∈ ps, Sh n m p) : PyData.showableAll ps = true ∧ PyData.depthAll ps ≤ m ∧ piled (PyData.shownAll ps) ≤ ps.length * (n + 2) := by
  induction ps with
  | nil => exact ⟨rfl, Nat.zero_le _, by simp [PyData.shownAll, piled]⟩
  | cons p ps ih =>
    obtain ⟨h1, h2, h3⟩ := ih fun q hq => h q (List.mem_cons_of_mem _ hq)
    have hp := h p (List.mem_cons_self ..)
    refine ⟨by simp only [PyData.showableAll, hp.sh, h1, Bool.and_self], by simp only [PyData.depthAll]; exact Nat.max_le.mpr ⟨hp.dp, h2⟩, ?_⟩
    simp only [PyData.shownAll, piled_cons, List.length_cons, Nat.add_mul]
    have := hp.le
    omega
theorem cl_all {ps : List PyData} (h : ∀ p ∈ ps, Cl p) : PyData.hasDictAll ps = false ∧ noLs ps = true := by
  induction ps with
  | nil => exact ⟨rfl, rfl⟩
  | cons p ps ih =>
    obtain ⟨h1, h2⟩ := ih fun q hq => h q (List.mem_cons_of_mem _ hq)
    have hp := h p (List.mem_cons_self ..)
    exact ⟨by simp only [PyData.hasDictAll, hp.nd, h1, Bool.or_self], by simp only [noLs, hp.nl, h2, Bool.and_self]⟩
theorem tupleText_le (ts : List Str) : (tupleText ts).length ≤ piled ts + 3 := by
  unfold tupleText
  rw [strLen_append, strLen_append]
  have e1 : (("(" : String) : Str).length = 1 := rfl
  have e2 : ((if ts.length == 1 then ",)" else ")" : String) : Str).length ≤ 2 := by split <;> decide
  by_cases h : ts = []
  · subst h
    simp [piled, Str.join] at *
    decide
  · have := join_length_add ts h
    omega
theorem sh_tup {ps : List PyData} {n m : Nat} (h : ∀ p ∈ ps, Sh n m p) : Sh (ps.length * (n + 2) + 3) (m + 1) (.tuple ps) := by
  obtain ⟨h1, h2, h3⟩ := sh_all h
  refine ⟨h1, ?_, ?_⟩
  · simp only [PyData.shown]
    have := tupleText_le (PyData.shownAll ps)
    omega
  · simp only [PyData.depth]
    omega
theorem cl_tup {ps : List PyData} (h : ∀ p ∈ ps, Cl p) : Cl (.tuple ps) := by
  obtain ⟨h1, h2⟩ := cl_all h
  exact ⟨by simpa only [PyData.hasDict] using h1, by simpa only [noL] using h2⟩
theorem Sh.mono {n m n' m' : Nat} {p : PyData} (s : Sh n m p) (h1 : n ≤ n') (h2 : m ≤ m') : Sh n' m' p := ⟨s.sh, Nat.le_trans s.le h1, Nat.le_trans s.dp h2⟩
theorem sh2 {p q : PyData} {a b m : Nat} (h1 : Sh a m p) (h2 : Sh b m q) : Sh (a + b + 7) (m + 1) (.tuple [p, q]) := by
  refine ⟨by simp only [PyData.showable, PyData.showableAll, h1.sh, h2.sh, Bool.and_self], ?_, ?_⟩
  · simp only [PyData.shown, PyData.shownAll]
    have := tupleText_le [p.shown, q.shown]
    simp only [piled_cons, piled_nil] at this
    have := h1.le
    have := h2.le
    omega
  · simp only [PyData.depth, PyData.depthAll]
    have := h1.dp
    have := h2.dp
    omega
theorem sh3 {p q r : PyData} {a b c m : Nat} (h1 : Sh a m p) (h2 : Sh b m q) (h3 : Sh c m r) : Sh (a + b + c + 9) (m + 1) (.tuple [p, q, r]) := by
  refine ⟨by simp only [PyData.showable, PyData.showableAll, h1.sh, h2.sh, h3.sh, Bool.and_self], ?_, ?_⟩
  · simp only [PyData.shown, PyData.shownAll]
    have := tupleText_le [p.shown, q.shown, r.shown]
    simp only [piled_cons, piled_nil] at this
    have := h1.le
    have := h2.le
    have := h3.le
    omega
  · simp only [PyData.depth, PyData.depthAll]
    have := h1.dp
    have := h2.dp
    have := h3.dp
    omega
theorem sh_str {x : Str} {n : Nat} (s : SS n x) : Sh (10 * n + 2) 0 (.str x) := by
  refine ⟨rfl, ?_, Nat.le_refl _⟩
  simp only [PyData.shown]
  have := PySem.StrLaws.reprText_len x fun c hc => Nat.lt_of_le_of_lt (s.sm c hc).2 (by decide)
  have := s.le
  omega
theorem textFrom_le : ∀ (ts : List Str) (k : Nat) (acc : Str), (textFrom k acc ts).length ≤ acc.length + piled ts
  | [], k, acc => by simp [textFrom, piled]
  | t :: ts, k, acc => by
    have ih := textFrom_le ts (k + 1) (acc ++ (if k > 0 then ", " else "" : String) ++ t)
    have e : (acc ++ (if k > 0 then ", " else "" : String) ++ t).length ≤ acc.length + 2 + t.length := by
      rw [strLen_append, strLen_append]
      have : ((if k > 0 then ", " else "" : String) : Str).length ≤ 2 := by split <;> decide
      omega
    simp only [textFrom, piled_cons]
    omega
theorem listText_le (ts : List Str) : (listText ts).length ≤ piled ts + 2 := by
  unfold listText
  rw [strLen_append]
  have := textFrom_le ts 0 "["
  have e1 : (("[" : String) : Str).length = 1 := rfl
  have e2 : (("]" : String) : Str).length = 1 := rfl
  omega
theorem sh_list {ps : List PyData} {n m : Nat} (h : ∀ p ∈ ps, Sh n m p) : Sh (ps.length * (n + 2) + 2) (m + 1) (.list ps) := by
  obtain ⟨h1, h2, h3⟩ := sh_all h
  refine ⟨h1, ?_, ?_⟩
  · simp only [PyData.shown]
    have := listText_le (PyData.shownAll ps)
    omega
  · simp only [PyData.depth]
    omega
mutual
theorem plain_nd : ∀ p : PyData, p.hasDict = false → p.plain = true
  | .none, _ => rfl
  | .bool _, _ => rfl
  | .int _, _ => rfl
  | .str _, _ => rfl
  | .list xs, h => by
    simp only [PyData.hasDict] at h
    simp only [PyData.plain]
    exact plains_nd xs h
  | .tuple xs, h => by
    simp only [PyData.hasDict] at h
    simp only [PyData.plain]
    exact plains_nd xs h
  | .dict _, h => by simp [PyData.hasDict] at h
theorem plains_nd : ∀ ps : List PyData, PyData.hasDictAll ps = false → PyData.plainAll ps = true
  | [], _ => rfl
  | p :: ps, h => by
    simp only [PyData.hasDictAll, Bool.or_eq_false_iff] at h
    simp only [PyData.plainAll, plain_nd p h.1, plains_nd ps h.2, Bool.and_self]
end

/-- data that may be compared and shown -/
structure Dg (n m : Nat) (p : PyData) : Prop where
  sh : Sh n m p
  nd : p.hasDict = false
theorem Dg.mono {n m n' m' : Nat} {p : PyData} (d : Dg n m p) (h1 : n ≤ n') (h2 : m ≤ m') : Dg n' m' p := ⟨d.sh.mono h1 h2, d.nd⟩
theorem dgs_nd {ps : List PyData} (h : ∀ p ∈ ps, p.hasDict = false) : PyData.hasDictAll ps = false := by
  induction ps with
  | nil => rfl
  | cons p ps ih => simp only [PyData.hasDictAll, h p (List.mem_cons_self ..), ih fun q hq => h q (List.mem_cons_of_mem _ hq), Bool.or_self]
theorem dg_list {ps : List PyData} {n m : Nat} (h : ∀ p ∈ ps, Dg n m p) : Dg (ps.length * (n + 2) + 2) (m + 1) (.list ps) :=
  ⟨sh_list fun p hp => (h p hp).sh, by simp only [PyData.hasDict]; exact dgs_nd fun p hp => (h p hp).nd⟩
theorem dg_nats : ∀ i : Fin 200, ((PyData.int ((i : Nat) : Int)).showable && decide ((PyData.int ((i : Nat) : Int)).shown.length ≤ 10)) = true := by decide +kernel
theorem dg_nat {i : Nat} (h : i < 200) : Dg 10 0 (.int (i : Int)) := by
  have := dg_nats ⟨i, h⟩
  simp only [Bool.and_eq_true, decide_eq_true_eq] at this
  exact ⟨⟨this.1, this.2, Nat.le_refl _⟩, rfl⟩
noncomputable def bAlike (cl : Str → List D → Hh → Res D) : Fs :=
  zRet (xAnd (xBin eqD (xV 0) (xV 1)) (xBin eqD (xBi .repr (xCons (xV 0) (xNil))) (xBi .repr (xCons (xV 1) (xNil)))))
theorem dOk_of {n m : Nat} {p : PyData} (d : Dg n m p) (hm : m ≤ 150) : dOk p = true := by
  simp only [dOk, plain_nd p d.nd, Bool.true_and, decide_eq_true_eq]
  exact Nat.le_trans d.sh.dp hm
theorem repr_of {h : Hh} {a : D} {n m : Nat} {p : PyData} (e : toD h a = some p) (d : Dg n m p) (hn : n ≤ 16000000) (hm : m ≤ 150) : biS .repr [a] h = .ok (.str p.shown) h := by
  have hz : sz p.shown.length = true := by
    simp only [sz, decide_eq_true_eq]
    exact Nat.le_trans (Nat.le_trans d.sh.le hn) (by decide)
  simp only [biS, bRepr, e, d.sh.sh, hz, decide_eq_true (Nat.le_trans d.sh.dp hm), Bool.and_self, if_true]
theorem eq_same {h : Hh} {a b : D} {n m : Nat} {p : PyData} (ea : toD h a = some p) (eb : toD h b = some p) (d : Dg n m p) (hm : m ≤ 150) : eqD a b h = .ok (.bl true) h ∧ neD a b h = .ok (.bl false) h := by
  have df : difL a b h = false := by
    unfold difL
    split
    · rename_i xs ys e1 e2
      have len : ∀ {c : D} {zs : List D}, asL h c = some zs → toD h c = some p → ∃ ps, p = .list ps ∧ ps.length = zs.length := fun {c zs} e1 e2 => by
        cases c with
        | lst ds =>
          simp only [asL, Option.some.injEq] at e1
          subst e1
          simp only [toD, toP, Option.map_eq_some_iff] at e2
          obtain ⟨ps, e3, rfl⟩ := e2
          exact ⟨ps, rfl, (toPs_len e3).symm⟩
        | ref k =>
          simp only [asL] at e1
          simp only [toD, toP, refP] at e2
          split at e1
          · rename_i e4
            cases e1
            rw [e4] at e2
            simp only [Option.map_eq_some_iff] at e2
            obtain ⟨ps, e3, rfl⟩ := e2
            exact ⟨ps, rfl, (toPs_len e3).symm⟩
          · cases e1
        | _ => simp [asL] at e1
      obtain ⟨ps, rfl, l1⟩ := len e1 ea
      obtain ⟨qs, e3, l2⟩ := len e2 eb
      cases e3
      simp only [decide_eq_false_iff_not]
      omega
    · rfl
  have ok := dOk_of d hm
  have er := PySem.SeqAt.eqv_refl_plain p (plain_nd p d.nd)
  constructor
  · simp only [eqD, df, Bool.false_eq_true, if_false, ea, eb, ok, Bool.and_self, if_true, er]
  · simp only [neD, df, Bool.false_eq_true, if_false, ea, eb, ok, Bool.and_self, if_true, er, Bool.not_true]
theorem alike_same {T : Tab} (hT : T "_law_alike" = some ⟨2, 2, bAlike⟩) {j : Nat} {h : Hh} {a b : D} {n m : Nat} {p : PyData} (ea : toD h a = some p) (eb : toD h b = some p) (d : Dg n m p) (hn : n ≤ 16000000) (hm : m ≤ 150) : callN T (j + 1) "_law_alike" [a, b] h = .ok (.bl true) h := by
  rw [call_at hT rfl]
  have e1 := (eq_same ea eb d hm).1
  have e2 := repr_of ea d hn hm
  have e3 := repr_of eb d hn hm
  simp [bAlike, startR, e1, e2, e3]
end Bx
namespace Bx
open PySem PySem.Spec PyProof.Rows L2
/-- the two statements -/
def supBody (se x f : Str) (p0 p1 p2 p3 p4 p5 p6 p7 p8 p9 : Pos) : List Stmt :=
  [.Expr (.Call (.Attribute (.Call (.Name "super" p0) [] [] p1) "__init__" p2) [.Name x p3] [] p4) p5, .Assign [.Attribute (.Name se p6) f p7] (.Name x p8) p9]
/-- what the written part says of the def and its class -/
structure SupC (P : Program) (g : Gx) (C fI : Addr) (se x f : Str) (fd : FuncData) : Prop where
  T : OexC g.K C
  fn : ∃ name qual params scope dV kV doc pm an cda ct cc oc od osl p0 p1 p2 p3 p4 p5 p6 p7 p8 p9,
    fd = PySem.W.ksFn name qual params (supBody se x f p0 p1 p2 p3 p4 p5 p6 p7 p8 p9) scope dV kV doc pm an (.ref cda) ct cc ∧ g.K.lookup fI = some ⟨oc, od, .func fd, osl⟩ ∧
    PySem.W.codeIn g.K (.ref cda) qual = true ∧ ((params.posonlyargs ++ params.args).head?.map (·.arg)) = some se ∧
    (∃ ccl cdd vs ccs file tf, g.K.lookup cda = some ⟨ccl, cdd, .fields vs, ccs⟩ ∧ vs[2]? = some (.str file tf) ∧ ((P.main.file : Str) == file) = true) ∧
    (∃ cl cld csl, g.K.lookup cc = some ⟨cl, cld, .cell (some (.ref C)), csl⟩) ∧
    scope.names.lookup ("super" : Str) = some .globalImplicit ∧ scope.names.lookup ("__class__" : Str) = some .free ∧ scope.names.lookup se = some .local ∧ scope.names.lookup x = some .local ∧
    (∀ y ∈ scope.names, y.2 ≠ .cell) ∧ scope.isCoroutine = false ∧ scope.isGenerator = false ∧ scope.kind = .function ∧
    (∀ L : Addr, interactive (callEnv fd L fI) = false ∧ swapsWith (.Call (.Attribute (.Call (.Name "super" p0) [] [] p1) "__init__" p2) [.Name x p3] [] p4) none p5.line (callEnv fd L fI) = pure false ∧
      swapsWith (.Name x p8) (some (.Attribute (.Name se p6) f p7)) p9.line (callEnv fd L fI) = pure false ∧ starEach [.Name x p3] (callEnv fd L fI) = [(false, eval (.Name x p3) (callEnv fd L fI))] ∧
      ∃ pl : Sem Bool, eval (.Call (.Attribute (.Call (.Name "super" p0) [] [] p1) "__init__" p2) [.Name x p3] [] p4) (callEnv fd L fI) = (do
        let ov ← attributeBase (.Call (.Name "super" p0) [] [] p1) "__init__" (callEnv fd L fI) (eval (.Call (.Name "super" p0) [] [] p1) (callEnv fd L fI))
        standAt p2.atName
        let (q, first) ← holding [ov] (getMethod ov "__init__" pl)
        callWith p4 q first (backTo p4 (starEach [.Name x p3] (callEnv fd L fI))) []))
  ne : se ≠ x
  xd : (x == ("__debug__" : Str)) = false
  sd : (se == ("__debug__" : Str)) = false
  sup : g.mg "super" = none
  top : (P.main.scope.names.lookup ("super" : Str)).isSome = false
  mro : PySem.W.mroIn g.K C (.ref C) = some true
  ini : PySem.W.ks_superIn g.K C C "__init__" = some (some (.builtin "ValueError.__init__"))
  opq : PySem.W.nsIn g.K cStatics "thirdparty.any" = some none
  ve : PySem.W.subIn g.K (.ref C) (.type "ValueError") = some true
  exi : PySem.W.excInitIn g.K C [.type "ValueError", .type "Exception", .type "BaseException", .type "object"] "ValueError.__new__" = true
  fno : PySem.W.findIn g.K (.ref C) f = some none
/-- what the def promises -/
def spSup (C : Addr) (f : Str) : Sp := fun vs H Q _ => ∃ (a : Addr) (y : V), vs = [.ref a, y] ∧ H a = some (exo a C none) ∧ ∀ dx, H dx = none → dx ≠ a → Q .non (upd (upd H dx (exd dx [(f, y)])) a (exo a C (some dx)))
section
variable {P : Program} {w : World} {g : Gx} {base : Heap} {CX : CXT} {C fI : Addr} {se x f : Str} {fd : FuncData}
theorem sup_fn (Z : SupC P g C fI se x f fd) : FnOk P w g.K g.mg base CX 1 fI fd [se, x] (spSup C f) := by
  refine ⟨fun vs H Q E ⟨a, y, e, _⟩ => by rw [e]; rfl, fun A outer s H args us vs Q E hr e0 hb r ⟨a, y, ev, ea, hq⟩ => ?_⟩
  subst ev
  obtain ⟨u, us', rfl⟩ : ∃ u us', us = u :: us' := by cases r with | cons _ _ => exact ⟨_, _, rfl⟩
  obtain ⟨v, rfl, ry⟩ : ∃ v, us' = [v] ∧ RelV y v := by
    cases r with
    | cons _ r => cases r with
      | cons h t => cases t; exact ⟨_, rfl, h⟩
  obtain rfl : u = Value.ref a := by cases r with | cons h _ => exact h
  obtain ⟨name, qual, params, scope, dV, kV, doc, pm, an, cda, ct, cc, oc, od, osl, p0, p1, p2, p3, p4, p5, p6, p7, p8, p9, rfl, lk, hcd, hpar, ⟨ccl, cdd, fvs, ccs, file, tf, hcode, hvs, hfile⟩, ⟨cl, cld, csl, hcell⟩, hks, hkc, hka, hkx, hcel, hco, hgen, hk, hev⟩ := Z.fn
  obtain ⟨hi, hs1, hs2, hst, pl, hcall⟩ := hev s.heap.objs.size
  have KX : g.K.In s.heap := e0.mod.kin.keeps fun b o e => (e0.bs b o e).1
  have lim : s.heap.NoLimit := e0.mod.nolimit.keeps fun b o e => (e0.bs b o e).1
  obtain ⟨t0, ho⟩ := exo_at e0.hok ea
  obtain ⟨ar, har, hse⟩ : ∃ ar, (params.posonlyargs ++ params.args).head? = some ar ∧ ar.arg = se := by
    cases z : (params.posonlyargs ++ params.args).head? with
    | none => rw [z] at hpar; cases hpar
    | some ar => rw [z] at hpar; exact ⟨ar, rfl, Option.some.inj hpar⟩
  have hloc : ∀ y ∈ [se, x].zip [Value.ref a, v], scope.names.lookup y.1 = some .local := fun y hy => by
    simp only [List.zip_cons_cons, List.zip_nil_right, List.mem_cons, List.not_mem_nil, or_false] at hy
    rcases hy with rfl | rfl
    · exact hka
    · exact hkx
  refine ks_codeAny_call_defAt (fd := PySem.W.ksFn name qual params (supBody se x f p0 p1 p2 p3 p4 p5 p6 p7 p8 p9) scope dV kV doc pm an (.ref cda) ct cc) (body := supBody se x f p0 p1 p2 p3 p4 p5 p6 p7 p8 p9) hr.depth (KX _ _ lk) rfl lim (PySem.W.codeRec_of KX hcd) rfl hb hcel hloc (fun h1 hns hk1 => ?_) hco hgen hk
  have bk1 : ∀ b o, base.get? b = some o → h1.get? b = some o := fun b o e => hk1 b o (e0.bs b o e).1
  obtain ⟨mb, hmb1, hmb2⟩ := e0.mod.blt
  have F1 : Fr (PySem.W.hideAll s.heap [a]) s.heap.objs.size h1 _ := ⟨hns, fun b o e => hk1 b o (PySem.W.of_hideAll _ e), Nat.le_of_eq (PySem.W.hideAll_size _ _)⟩
  have N1 : News (PySem.W.hideAll s.heap [a]) s.heap.objs.size h1 [(a, PySem.W.excObj C t0 none .none)] := fun p hp => by
    obtain rfl := List.mem_singleton.mp hp
    exact ⟨hk1 _ _ ho, Nat.ne_of_lt (Heap.lt_size ho), PySem.W.hideAll_none _ (by simp)⟩
  have X0 : g.K.In (PySem.W.hideAll s.heap [a]) := fun b o e => PySem.W.hideAll_get _ (KX b o e) (by
    simp only [List.mem_singleton]
    rintro rfl
    have z := (e0.bs b o (e0.mod.kin b o e)).2
    rw [ea] at z
    cases z)
  have X1 : g.K.In h1 := X0.keeps F1.keep
  obtain ⟨cd, hC⟩ : ∃ cd, PySem.W.clsIn g.K C = some cd := by
    cases z : PySem.W.clsIn g.K C with
    | none =>
      have q := Z.ini
      unfold PySem.W.ks_superIn at q
      rw [z] at q
      cases q
    | some cd => exact ⟨cd, rfl⟩
  obtain ⟨oD, hD1, hD2⟩ : ∃ oD, h1.get? C = some oD ∧ oD.data = .cls cd := by
    unfold PySem.W.clsIn at hC
    split at hC
    · rename_i c d cd' sl ho
      cases hC
      exact ⟨_, X1 _ _ ho, rfl⟩
    · cases hC
  have hself : (([se, x].zip [Value.ref a, v]).reverse.lookup se) = some (.ref a) := by
    have : (se == x) = false := by simpa using Z.ne
    simp [List.lookup, this]
  have hxv : (([se, x].zip [Value.ref a, v]).reverse.lookup x) = some v := by simp [List.lookup]
  refine ks_wpAt_execs_cons (ks_wpAt_Expr_any (ks_wpAt_MethodCall ?_ hcall) hi hs1)
  refine ks_wpAt_super_base (ar := ar) hks hkc rfl rfl (X1 _ _ lk) rfl har rfl (X1 _ _ hcode) rfl hvs hfile Z.top ?_
  refine PySem.W.ks_loadName_global hk hks (Calls.loadGlobal_builtin (e0.mod.glob.keeps bk1) Z.sup (hmb1.keeps bk1) ((hmb2 _ (by decide +kernel)).trans (by first | boot_by_name | rfl | kernel_rfl)) ⟨rfl, ?_⟩)
  refine wpAny_loadName_free hk hkc rfl ⟨_, X1 _ _ hcell, rfl⟩ ?_
  rw [hse]
  refine wpAny_loadName_local hk hka F1.ns hself ?_
  refine ks_wpAny_isType_cls hD1 hD2 ⟨rfl, ?_⟩
  refine ks_wpAny_call_super hD1 hD2 (hk1 _ _ ho) rfl (fun c e => by cases e) (PySem.W.looks_mroIn X1 Z.mro) (fun h2 e2 k2 => ?_)
  obtain ⟨F2, N2, l2⟩ := PySem.W.ks_newsPush (s := { s with heap := h1 }) F1 N1 rfl e2 k2
  refine PySem.W.kxs_method (s := { s with heap := h2, toks := s.toks + 2 }) PySem.W.kxs_ValueError F2 X0 N2 (List.mem_cons_self ..) (PySem.W.InstAt.of_exc0 N2 (List.mem_cons_of_mem _ (List.mem_singleton.mpr rfl))) Z.opq Z.ini Z.ve (by decide +kernel) (fun u h3 F3 N3 l3 => ?_)
  rw [hst]
  refine PySem.W.kxs_callWith (i := "ValueError.__init__") (x := a) rfl (Calls.evalArgs_plain (Calls.spliced_cons (wpAny_Name (wpAny_loadName_local hk hkx F3.ns hxv (Calls.spliced_nil ⟨PySem.W.kxs_at N3 (List.mem_cons_self ..), ?_⟩)) Z.xd)))
  have nau : (u, PySem.W.kxs_mw "ValueError.__init__" a).1 ≠ a := Nat.ne_of_gt (l3 (a, _) (List.mem_cons_of_mem _ (List.mem_singleton.mpr rfl)))
  have nas : (h1.objs.size, PySem.W.ks_superObj C a C).1 ≠ a := Nat.ne_of_gt (l2 (a, _) (List.mem_singleton.mpr rfl))
  refine PySem.W.kxs_call (dv := none) (c2 := .none) F3 X0 N3 F.excBase_ValueError Z.exi (List.mem_cons_self ..) (.tail nau (.tail nas (.head (fun _ hp => (nomatch hp))))) (by simp [sizeLine_eq]) (fun t1 h4 F4 N4 l4 => ?_)
  -- self.f = x
  have hx4 : h4.get? a = some (PySem.W.excObj C t1 none .none) := (N4 (a, PySem.W.excObj C t1 none .none) (List.mem_cons_of_mem _ (List.mem_cons_of_mem _ (List.mem_cons_of_mem _ (List.mem_singleton.mpr rfl))))).1
  have X4 : g.K.In h4 := X0.keeps F4.keep
  obtain ⟨nm, q, NN, bs, bm, sn, sub, ab, col, dd, k0, k1, k2', k3, k5, hCo, hbm⟩ := Z.T.cls
  have hcl : PySem.W.clsIn g.K C = some { name := nm, bases := bs, mro := .ref C :: bm, ns := NN, qualname := q, hasDict := true, slotNames := sn, subclasses := sub, abstract := ab, collection := col, hasDel := false } := by unfold PySem.W.clsIn; rw [hCo] <;> rfl
  refine ks_wpAt_execs_cons (wpAt_of_wpAny (plainObj_wpAny_Assign_Attribute (wpAny_Name (wpAny_loadName_local hk hkx F4.ns hxv (wpAny_Name (wpAny_loadName_local hk hka F4.ns hself ?_) Z.sd)) Z.xd) hs2))
  refine PySem.W.set_plain X4 (ox := PySem.W.excObj C t1 none .none) (od := none) ⟨hx4, rfl, rfl, trivial⟩ Z.T.sa ?_
  refine PySem.HandSPX.exc_osa X4 hx4 hcl (show PySem.HandSPX.refsVE (.ref C :: bm) = true from hbm) rfl Z.fno (fun h5 tk5 dx k5' dn dne hx hn => ?_)
  refine wpAt_of_wpAny (wpAny_execs_nil ?_)
  have hL : s.heap.objs.size < h4.objs.size := by
    obtain ⟨oL, es, ep, e, _⟩ := F4.ns
    exact Heap.lt_size e
  have hnd : H dx = none := e0.hok.fresh (Nat.le_trans (Nat.le_of_lt hL) dn)
  have kk : ∀ b o, b ≠ a → s.heap.get? b = some o → h5.get? b = some o := fun b o hb e => k5' b o hb (F4.keep b o (PySem.W.hideAll_get _ e (by simpa using hb)))
  have nd : ∀ {b : Addr} {o : Obj}, s.heap.get? b = some o → b ≠ dx := fun {b o} q => Nat.ne_of_lt (Nat.lt_of_lt_of_le (Nat.lt_trans (Heap.lt_size q) hL) dn)
  have na : ∀ {b : Addr}, H b = none → b ≠ a := fun {b} n z => by
    rw [z, ea] at n
    cases n
  refine ⟨.non, upd (upd H dx (exd dx [(f, y)])) a (exo a C (some dx)), rfl, e0.bare, {
    keep := fun b o q n _ _ => kk b o (na n) q
    slot := fun b o q n _ _ => ⟨o.slots, kk b o (na n) q⟩
    free := fun b o q n _ => by rw [upd_ne (na n), upd_ne (nd q)]; exact n
    there := fun b o q _ => by
      by_cases hb : b = a
      · exact ⟨_, by rw [hb]; exact hx⟩
      · exact ⟨o, kk b o hb q⟩
    tups := fun b xs q => by rw [upd_ne (at_ne ea q exo_tup), upd_ne (ne_of_none q hnd)]; exact q
    frzs := fun b o v q => by rw [upd_ne (at_ne ea q exo_frz), upd_ne (ne_of_none q hnd)]; exact q
    tbls := fun b ps q => ⟨#[], by rw [upd_ne (at_ne ea q exo_tbl), upd_ne (ne_of_none q hnd), q]; simp⟩ }, fun b o q => ?_, rfl, hq dx hnd dne⟩
  by_cases hb : b = a
  · subst hb
    rw [upd_same] at q
    cases q
    exact exo_ok hx
  · rw [upd_ne hb] at q
    by_cases hd : b = dx
    · subst hd
      rw [upd_same] at q
      cases q
      exact exd_ok hn (relO_put (fs := []) ry fun g => True.intro)
    · rw [upd_ne hd] at q
      exact (e0.hok b o q).stay (fun c v hc z => kk c v (by
          rcases hc with hc | hc
          · rw [hc]
            exact hb
          · exact at_ne ea hc exo_own) z)
        (fun c hc => by rw [upd_ne (at_ne ea hc exo_own), upd_ne (ne_of_none hc hnd)]; exact hc) (fun c xs hc => by rw [upd_ne (at_ne ea hc exo_tup), upd_ne (ne_of_none hc hnd)]; exact hc)
end
end Bx
namespace Bx
open PySem PySem.Spec PyProof.Rows L2
/-- an error with one field, as the written part has it -/
structure ExC (P : Program) (g : Gx) (c : Str) (C fI : Addr) (fd : FuncData) (se x : Str) : Prop where
  sup : SupC P g C fI se x (fldOf c) fd
  mg : g.mg c = some (.ref C)
  ini : PySem.W.findIn g.K (.ref C) "__init__" = some (some (.ref fI))
  fn : PySem.W.typeIn g.K (.ref fI) = some (.type "function")
  bd : Binds g.K fd [se, x] []
def tMkV (C : Addr) (f : Str) (ta : TA) : TE := fun σ H Q => ta σ H fun vs H1 => ∃ y, vs = [y] ∧ ∀ a dx, H1 a = none → H1 dx = none → dx ≠ a → Q (.ref a) (upd (upd H1 dx (exd dx [(f, y)])) a (exo a C (some dx)))
/-- C(e): an error made -/
def xExn (c : Str) (n : Nat) (fs : Fl) : Fn := fun ρ h => (fs ρ h).bind fun ds h1 => if ds.length = n then .ok (.exn c ds) h1 else .bad
/-- raise C(e) -/
def zRaise (c : Str) (n : Nat) (fs : Fl) : Fs := fun ρ h => SRes.of ρ (fs ρ h) fun ds h1 => if ds.length = n then .exc c ds ρ h1 else .bad
section
variable {g : Gx} {W : WX} {X : Cx} {c se x : Str} {C fI : Addr} {fd : FuncData} {e : Expr} {ta : TA} {fs : Fl} {p pos : Pos}
theorem upd_back {H : Hp} {a dx : Addr} {o1 o2 o3 : HO} (h : dx ≠ a) : upd (upd (upd H a o1) dx o2) a o3 = upd (upd H dx o2) a o3 := by
  funext b
  by_cases hb : b = a
  · rw [hb, upd_same, upd_same]
  · rw [upd_ne hb, upd_ne hb]
    by_cases hd : b = dx
    · rw [hd, upd_same, upd_same]
    · rw [upd_ne hd, upd_ne hd, upd_ne hb]
theorem pe_oexV (Z : ExC X.prog g c C fI fd se x) (hK : X.K = g.K) (hM : X.mg = g.mg) (hr : Room 2 X.A) (hg : Gl X c) (ha : PA X [e] ta)
    (hdb : (c == ("__debug__" : Str)) = false := by decide +kernel) (he : starEach [e] X.env = [(false, eval e X.env)] := by rfl) : PE X (.Call (.Name c p) [e] [] pos) (tMkV C (fldOf c) ta) := by
  refine ⟨fun pins s σ H Q I h => ?_⟩
  obtain ⟨nm, q, N, bs, bm, sn, sub, ab, col, dd, k0, k1, k2, k3, k5, hC, hbm⟩ := Z.sup.T.cls
  refine wpAny_Call_Name_kw (ld_glob I hg (by rw [hM]; exact Z.mg) ?_ hdb)
  refine PySem.W.callWith_K (h₀ := X.base) I.ok.mod.kin (by rw [hK]; exact Z.sup.T.kC) (thn (ha.run pos pins s σ H _ I h) fun us s1 ⟨vs, H1, I1, r1, y, ev, q1⟩ => ⟨I1.kIn, ?_⟩) he rfl
  subst ev
  show wpAny _ _ (call (.ref C) us) _ _ _
  obtain ⟨hp, gg, dr, tk, os⟩ := s1
  have hn : H1 (hp.objs.size + 1) = none := I1.hok.fresh (Nat.le_succ _)
  have kk : ∀ b o, hp.get? b = some o → ((hp.push (PySem.W.kdv_tup us)).push (PySem.HandSPX.excO C hp.objs.size)).get? b = some o := fun b o e => Heap.get?_push_of_some _ (Heap.get?_push_of_some _ e)
  have hget : ((hp.push (PySem.W.kdv_tup us)).push (PySem.HandSPX.excO C hp.objs.size)).get? (hp.objs.size + 1) = some (PySem.HandSPX.excO C hp.objs.size) := by heap_get
  have I2 : Inv X pins σ (upd H1 (hp.objs.size + 1) (exo (hp.objs.size + 1) C none)) ⟨(hp.push (PySem.W.kdv_tup us)).push (PySem.HandSPX.excO C hp.objs.size), gg, dr, tk, os⟩ :=
    I1.laid (t' := tk) (a := hp.objs.size + 1) (o := exo (hp.objs.size + 1) C none) (h' := (hp.push (PySem.W.kdv_tup us)).push (PySem.HandSPX.excO C hp.objs.size)) kk (Nat.le_succ _) (exo_ok hget)
  have r2 : Vals [V.ref (hp.objs.size + 1), y] (Value.ref (hp.objs.size + 1) :: (us ++ [])) := by rw [List.append_nil]; exact .cons rfl r1
  have hlu : us.length = 1 := by have := r1.length; simpa using this.symm
  have kin : g.K.In hp := by rw [← hK]; exact I1.kIn
  have F1 := sup_fn (w := X.w) (base := X.base) (CX := L2.CX X.prog X.w) Z.sup
  have e2 : Env0 X.prog X.w g.K g.mg X.base (X.A.under (.builtin "type.__call__" ⟨.ref C :: us, []⟩)) X.stack ⟨(hp.push (PySem.W.kdv_tup us)).push (PySem.HandSPX.excO C hp.objs.size), gg, dr, tk, os⟩ (upd H1 (hp.objs.size + 1) (exo (hp.objs.size + 1) C none)) := by
    rw [← hK, ← hM]
    exact I2.env0.make C us []
  have sp : spSup C (fldOf c) [V.ref (hp.objs.size + 1), y] (upd H1 (hp.objs.size + 1) (exo (hp.objs.size + 1) C none)) (fun v H2 => v = .non ∧ Q (.ref (hp.objs.size + 1)) H2) (fun _ _ _ => False) :=
    ⟨_, y, rfl, upd_same, fun dx hd ne => ⟨rfl, by rw [upd_back ne]; exact q1 _ dx hn (by rw [upd_ne ne] at hd; exact hd) ne⟩⟩
  refine wpAny_call (PySem.HandSPX.call_own F.excBase_ValueError (fun Y => PySem.HandSPX.refsVE_contains Y bm hbm) (kin _ _ hC) (PySem.W.looks_findIn kin Z.ini) (fun self => PySem.W.bind_fn kin self Z.fn) (by rw [hlu]; decide)
    (codeAny_mono (F1.run _ X.stack _ _ ⟨Value.ref (hp.objs.size + 1) :: us, []⟩ (Value.ref (hp.objs.size + 1) :: (us ++ [])) _ _ (fun _ _ _ => False) (hr.make C us []) e2 (Z.bd _ (Value.ref (hp.objs.size + 1) :: us) (by have := I2.kIn; rw [hK] at this; exact this) (by simp [hlu])) r2 sp) fun r s' hq' => ?_))
  cases r with
  | error er =>
    obtain ⟨_, _, _, _, _, _, _, _, _, _, _, _, z⟩ := hq'
    exact z.elim
  | ok fl =>
    cases fl with
    | ret u =>
      obtain ⟨v, H2, J, rv, ev, q2⟩ := I2.after hq'
      subst ev
      exact ⟨rv, .ref _, H2, J, rfl, q2⟩
    | next => exact False.elim hq'
    | brk => exact False.elim hq'
    | cont => exact False.elim hq'
/-- a new error is held as a value -/
theorem exn_new {w : Wd} {H : Hp} {h : Hh} {a dx : Addr} {y : V} {d : D} (hr : HR g w h H) (hc : g.mg c = some (.ref C)) (rv : RV g w H d y) (ha : H a = none) (hd : H dx = none) (ne : dx ≠ a) :
    ∃ w', Later w H w' (upd (upd H dx (exd dx [(fldOf c, y)])) a (exo a C (some dx))) ∧ HR g w' h (upd (upd H dx (exd dx [(fldOf c, y)])) a (exo a C (some dx))) ∧ RV g w' (upd (upd H dx (exd dx [(fldOf c, y)])) a (exo a C (some dx))) (.exn c [d]) (.ref a) := by
  have l1 := later_lay (o := exd dx [(fldOf c, y)]) hr hd
  have h1 := hr_lay (o := exd dx [(fldOf c, y)]) hr hd
  have ha' : upd H dx (exd dx [(fldOf c, y)]) a = none := by rw [upd_ne (Ne.symm ne)]; exact ha
  have l2 := later_lay (o := exo a C (some dx)) h1 ha'
  have h2 := hr_lay (o := exo a C (some dx)) h1 ha'
  refine ⟨_, l1.trans l2, h2, .exn (fs := [(fldOf c, y)]) ⟨.inl rfl, .inr ⟨dx, upd_same, .inr (.inl rfl), by rw [upd_ne ne, upd_same]⟩⟩ hc rfl (.cons (rv.mono (l1.trans l2)) .nil)⟩
theorem q_exn (xo : XO g X) (Z : ExC X.prog g c C fI fd se x) (hr : Room 2 X.A) (hg : Gl X c) (ha : PA X [e] (tL g W fs))
    (hdb : (c == ("__debug__" : Str)) = false := by decide +kernel) (he : starEach [e] X.env = [(false, eval e X.env)] := by rfl) : PE X (.Call (.Name c p) [e] [] pos) (tI g W (xExn c 1 fs)) :=
  ⟨fun pins s σ H Q I ⟨w, ρ, h, sr, o⟩ => (pe_oexV Z xo.K xo.mg hr hg ha hdb he).run pins s σ H Q I (tL_go sr o fun Vs H1 w1 ds h1 l sr1 rvs o1 => by
    split at o1
    · rename_i hl
      obtain ⟨d, rfl⟩ := List.length_eq_one_iff.mp hl
      cases rvs with
      | @cons _ y _ _ rv t =>
        cases t
        refine ⟨y, rfl, fun a dx na nd ne => ?_⟩
        obtain ⟨w2, l2, h2, r2⟩ := exn_new sr1.hr Z.mg rv na nd ne
        exact o1 w2 _ _ l2 h2 r2
    · exact o1.elim)⟩
theorem xd_new {H : Hp} {a dx : Addr} {y : V} {f : Str} (ha : H a = none) (ne : dx ≠ a) : upd (del (upd (upd H dx (exd dx [(f, y)])) a (exo a C (some dx))) a) dx (.xd [(f, y)]) = upd H dx (.xd [(f, y)]) := by
  funext b
  by_cases hb : b = dx
  · rw [hb, upd_same, upd_same]
  · rw [upd_ne hb, upd_ne hb]
    by_cases h2 : b = a
    · rw [h2, del_same, ha]
    · rw [del_ne h2, upd_ne h2, upd_ne hb]
theorem w_raise (xo : XO g X) (tk : Takes X W) (Z : ExC X.prog g c C fI fd se x) (hr : Room 2 X.A) (hg : Gl X c) (ha : PA X [e] (tL g W fs))
    (hdb : (c == ("__debug__" : Str)) = false := by decide +kernel) (he : starEach [e] X.env = [(false, eval e X.env)] := by rfl) {pos' : Pos} : PS X (.Raise (some (.Call (.Name c p) [e] [] pos)) none pos') (tS g W (zRaise c 1 fs)) := by
  have hT : OexC X.K C := by rw [xo.K]; exact Z.sup.T
  have F1 : FnOk X.prog X.w X.K X.mg X.base (fun _ _ _ _ _ _ => False) 1 fI fd [se, x] (spSup C (fldOf c)) := by rw [xo.K, xo.mg]; exact sup_fn Z.sup
  have mk := pmk_oex (X := X) (x := c) (p := p) (pos := pos) (ta := tL g W fs) (ds := []) (dvs := []) hT (by rw [xo.K]; exact Z.ini) (by rw [xo.K]; exact Z.fn) F1 hr (by rw [xo.K]; exact Z.bd) .nil (fun _ _ _ _ _ _ _ z => z.elim) hg (by rw [xo.mg]; exact Z.mg) ha hdb he rfl
  refine ⟨fun pins s σ H Dn I ⟨w, ρ, h, sr, o⟩ => (ps_raise xo.calm tk mk).run pins s σ H Dn I ?_⟩
  show tL g W fs σ H _
  unfold zRaise at o
  refine ⟨w, ρ, h, sr, ?_⟩
  cases e1 : fs ρ h with
  | bad => rw [e1] at o; exact o.elim
  | exc c' ds' h' =>
    rw [e1] at o
    exact fun w' H' C' d' l hr' xr => o w' H' σ C' d' l (sr.step l hr') xr
  | ok ds h1 =>
    rw [e1] at o
    intro w1 H1 Vs l hr1 rvs
    simp only [SRes.of] at o
    split at o
    · rename_i hl
      obtain ⟨d, rfl⟩ := List.length_eq_one_iff.mp hl
      cases rvs with
      | @cons _ y _ _ rv t =>
        cases t
        refine ⟨by simp, fun a na => ⟨a, y, rfl, upd_same, fun dx nd ne => ⟨rfl, dx, [(fldOf c, y)], upd_same, by rw [upd_ne ne, upd_same], by rw [upd_ne ne] at nd; exact nd, ?_⟩⟩⟩
        rw [upd_back ne, xd_new na ne]
        have nd' : H1 dx = none := by rw [upd_ne ne] at nd; exact nd
        exact o w1 _ σ C (some dx) (l.trans (later_new hr1 nd')) ((sr.step l hr1).step (later_new hr1 nd') (hr_new hr1 nd')) ⟨Z.mg, .inr ⟨dx, _, rfl, upd_same, rfl, .cons (rv.mono (later_new hr1 nd')) .nil⟩⟩
    · exact o.elim
end
end Bx
namespace Bx
open PySem PySem.Spec PyProof.Rows L2
/-- what the written part says of an error's class -/
structure ExK (K : PySem.W.Frag) (C : Addr) : Prop where
  cl : (PySem.W.clsIn K C).isSome = true
  ga : PySem.W.findIn K (.ref C) "__getattribute__" = some (some (.builtin "BaseException.__getattribute__"))
  gg : PySem.W.findIn K (.ref C) "__getattr__" = some none
  ex : PySem.W.subIn K (.ref C) (.type "BaseException") = some true
  hd : PySem.W.hasDictIn K C = true
  ca : PySem.W.findIn K (.ref C) "__class__" = some (some (.builtin "object.__class__"))
  cg : PySem.W.specialIn K (.builtin "object.__class__") "__get__" = some (some (.builtin "getset_descriptor.__get__"))
  ct : PySem.W.takesIn K (.builtin "object.__class__") = some true
  ob : PySem.W.mroIn K C (.type "object") = some true
section
variable {g : Gx} {W : WX} {X : Cx} {w : Wd} {H : Hp} {a C : Addr} {fs : List (Str × V)}
theorem ExAt.inst {pins : List (Addr × Obj)} {σ : L2.St} {s : Shared} (I : Inv X pins σ H s) (x : ExAt w H a C fs) : ∃ ox od, PySem.W.InstAt s.heap a ox C od ∧ (∀ n v, fs.lookup n = some v → ∃ o u, od = some o ∧ PySem.W.lookIn n o = some (some u) ∧ RelV v u) := by
  obtain ⟨_, x⟩ := x
  rcases x with ⟨rfl, e⟩ | ⟨d, e, _, ed⟩
  · obtain ⟨t1, ho⟩ := exo_at I.hok e
    exact ⟨_, none, ⟨ho, rfl, rfl, trivial⟩, fun n v z => by simp at z⟩
  · obtain ⟨t1, ho⟩ := exo_at I.hok e
    obtain ⟨mA, hns, hr⟩ := exd_at I.hok ed
    obtain ⟨od, hod, hl⟩ := lookIn_ns hns
    refine ⟨_, some od, ⟨ho, rfl, rfl, hod⟩, fun n v z => ?_⟩
    obtain ⟨u, hu, ru⟩ := RelO.some_of (v := v) (o := mA n) (by rw [← z]; exact hr n)
    exact ⟨od, u, rfl, by rw [hl, hu], ru⟩
/-- isinstance(e, c) -/
def rIsX (K : PySem.W.Frag) : List V → Hp → VK → Prop := fun xs H Q => ∃ (a C : Addr) (w : Wd) (fs : List (Str × V)) (c : V) (cv : Value) (b : Bool), xs = [.ref a, c] ∧ ExAt w H a C fs ∧ ExK K C ∧ (∀ u, RelV c u → u = cv) ∧ PySem.W.kitOne K (.ref C) cv = some b ∧ Q (.bl b) H
theorem call_isX : CallR X (.builtin "isinstance") (rIsX X.K) := by
  intro pins s σ H xs us Q I r h
  obtain ⟨a, C, w, fs, c, cv, b, rfl, x, k, hcv, e, q⟩ := h
  cases r with
  | cons rx rr =>
    cases rr with
    | cons rt rr =>
      cases rr
      cases rx
      have ec := hcv _ rt
      subst ec
      obtain ⟨ox, od, J, _⟩ := x.inst I
      exact PySem.W.kia_one (PySem.W.kitx_exc k.cl k.ga k.gg k.ex k.ca k.cg k.ct k.ob) I.kIn J e (fun z => nomatch z) fun tk => ⟨.bl b, H, I.kept (t' := tk) fun _ _ z => z, rfl, q⟩
/-- isinstance(e, c): by the class's name -/
def xIsE (tb : List (Str × Bool)) (f : Fn) : Fn := fun ρ h => (f ρ h).bind fun d h1 => match d with
  | .exn c _ => match tb.lookup c with
    | some b => .ok (.bl b) h1
    | none => .bad
  | _ => .bad
/-- e.f -/
def xFld (ns : List Str) (n : Str) (f : Fn) : Fn := fun ρ h => (f ρ h).bind fun d h1 => match d with
  | .exn c [x] => if ns.contains c && decide (fldOf c = n) then .ok x h1 else .bad
  | _ => .bad
variable {e : Expr} {f : Fn} {p p1 pos : Pos}
/-- isinstance(e, N), N a class of the module -/
theorem q_isE (xo : XO g X) {n : Str} {tb : List (Str × Bool)} {cv : Value} {v : V} (hg : Gl X "isinstance") (hm : g.mg "isinstance" = none) (hn : PE X (.Name n p1) (tC v)) (hv : ∀ u, RelV v u → u = cv)
    (ht : ∀ c b, tb.lookup c = some b → ∀ C, g.mg c = some (.ref C) → ExK g.K C ∧ PySem.W.kitOne g.K (.ref C) cv = some b)
    (he : PE X e (tI g W f)) (hs : starEach [e, .Name n p1] X.env = (false, eval e X.env) :: starEach [.Name n p1] X.env := by rfl) (hs2 : starEach [.Name n p1] X.env = [(false, eval (.Name n p1) X.env)] := by rfl) :
    PE X (.Call (.Name "isinstance" p) [e, .Name n p1] [] pos) (tI g W (xIsE tb f)) := by
  have cl := pe_callB (p := p) (pos := pos) (call_isX (X := X)) hg (by rw [xo.mg]; exact hm) (by decide +kernel) (pa_cons he (pa_cons hn pa_nil hs2) hs) (by decide +kernel) (by decide +kernel) hs (by rw [hs2]; rfl)
  refine ⟨fun pins s σ H Q I ⟨w, ρ, h, sr, o⟩ => cl.run pins s σ H Q I (tI_go sr o fun V H1 w1 d h1 l sr1 rv o1 => ?_)⟩
  cases d with
  | exn c ds =>
    dsimp only at o1
    cases hb : tb.lookup c with
    | none => rw [hb] at o1; exact o1.elim
    | some b =>
      rw [hb] at o1
      cases rv with
      | @exn a C _ fs _ x hc hf t =>
        obtain ⟨k1, k2⟩ := ht c b hb C hc
        exact ⟨a, C, w1, fs, v, cv, b, rfl, x, by rw [xo.K]; exact k1, hv, by rw [xo.K]; exact k2, o1 w1 H1 _ (Later.refl w1 H1) sr1.hr (.bl b)⟩
  | _ => exact o1.elim
/-- e.n -/
theorem q_fld (xo : XO g X) {ns : List Str} {n : Str} (ht : ∀ c C, c ∈ ns → fldOf c = n → g.mg c = some (.ref C) → ExK g.K C ∧ PySem.W.findIn g.K (.ref C) n = some none) (he : PE X e (tI g W f)) (hb : attributeBase e n X.env (eval e X.env) = eval e X.env := by rfl) :
    PE X (.Attribute e n pos) (tI g W (xFld ns n f)) := by
  refine ⟨fun pins s σ H Q I ⟨w, ρ, h, sr, o⟩ => ?_⟩
  have rd : tI g W f σ H (fun V H1 => ∃ (a C : Addr) (w1 : Wd) (fs : List (Str × L2.V)) (v : L2.V), V = .ref a ∧ ExAt w1 H1 a C fs ∧ ExK g.K C ∧ PySem.W.findIn g.K (.ref C) n = some none ∧ fs.lookup n = some v ∧ Q v H1) := tI_go sr o fun V H1 w1 d h1 l sr1 rv o1 => by
    cases d with
    | exn c ds =>
      cases ds with
      | nil => exact o1.elim
      | cons x ds =>
        cases ds with
        | cons _ _ => exact o1.elim
        | nil =>
          dsimp only at o1
          split at o1
          · rename_i hf
            simp only [Bool.and_eq_true, decide_eq_true_eq, List.contains_iff_mem] at hf
            obtain ⟨hin, hf⟩ := hf
            cases rv with
            | @exn a C _ fs _ xa hc hn t =>
              obtain ⟨k1, k2⟩ := ht c C hin hf hc
              cases fs with
              | nil => simp at hn
              | cons q r =>
                cases t with
                | cons rx t =>
                  have hr : r = [] := by
                    have := t.length
                    cases r with
                    | nil => rfl
                    | cons _ _ => simp at this
                  subst hr
                  obtain ⟨n', v⟩ := q
                  simp only [List.map_cons, List.map_nil, List.cons.injEq, and_true] at hn
                  exact ⟨a, C, w1, [(n', v)], v, rfl, xa, k1, k2, by rw [hn, hf]; simp [List.lookup], o1 w1 H1 _ (Later.refl w1 H1) sr1.hr rx⟩
          · exact o1.elim
    | _ => exact o1.elim
  refine attr_of hb (thn (he.run pins s σ H _ I rd) fun u s1 hh => ?_)
  · obtain ⟨x, H1, I1, rx, a, C, w1, fs, v, ex, xa, k1, k2, hl, q⟩ := hh
    subst ex
    obtain rfl : u = Value.ref a := rx
    obtain ⟨ox, od, J, fd⟩ := xa.inst I1
    obtain ⟨o1, u, rfl, hu, ru⟩ := fd n v hl
    have kin : g.K.In s1.heap := by rw [← xo.K]; exact I1.kIn
    exact HandSPX.exc_get kin J k1.ga k1.gg k1.ex (PySem.W.findObj_own k1.hd k2 rfl (by rw [hu])) (handed_of ru) ⟨v, H1, I1.tok _, ru, q⟩
end
end Bx
namespace Bx
open PySem PySem.Spec PyProof.Rows L2
section
variable {g : Gx} {W : WX} {X : Cx} {c : Str} {C : Addr} {p pos : Pos}
theorem pe_exc0 (q : PySem.W.excIn X.K C [.type "ValueError", .type "Exception", .type "BaseException", .type "object"] "ValueError.__new__" = true) (gC : X.mg c = some (.ref C)) (kC : PySem.W.keepIn X.K (.ref C) = true) (hg : Gl X c) (hdb : (c == ("__debug__" : Str)) = false := by decide +kernel) :
    PE X (.Call (.Name c p) [] [] pos) (fun σ H Q => ∀ a, H a = none → Q (.ref a) (upd H a (exo a C none))) := by
  refine ⟨fun pins s σ H Q I h => ?_⟩
  refine wpAny_Call_Name_kw (ld_glob I hg gC ?_ hdb)
  refine PySem.W.callWith_K0 I.kIn kC ?_
  show wpAny _ _ (call (.ref C) []) _ _ _
  obtain ⟨bm, N, nm, qn, bs, hdct, sn, sub, ab, col, dd, k0, k1, k2, k3, k5, mN, hC, hN, hni, T⟩ := exc_obj I.kIn q
  refine wpAny_call_exc_subT F.excBase_ValueError T hC hN hni (fun h' a hm => ?_) (by decide)
  have hn : H a = none := I.hok.gone hm.new
  obtain ⟨t, ht, _, _⟩ := hm.there
  exact ⟨.ref a, upd H a (exo a C none), I.laidN hm.keeps hm.new hn (exo_ok ht), rfl, h a hn⟩
theorem q_exn0 (xo : XO g X) (q : PySem.W.excIn g.K C [.type "ValueError", .type "Exception", .type "BaseException", .type "object"] "ValueError.__new__" = true) (gC : g.mg c = some (.ref C)) (kC : PySem.W.keepIn g.K (.ref C) = true) (hg : Gl X c) (hdb : (c == ("__debug__" : Str)) = false := by decide +kernel) :
    PE X (.Call (.Name c p) [] [] pos) (tI g W (xExn c 0 xNil)) :=
  ⟨fun pins s σ H Q I ⟨w, ρ, h, sr, o⟩ => (pe_exc0 (by rw [xo.K]; exact q) (by rw [xo.mg]; exact gC) (by rw [xo.K]; exact kC) hg hdb).run pins s σ H Q I fun a na => by
    have o : OKg g (RV g) w H (wAt W σ) Q (.ok (.exn c []) h) := o
    exact o _ _ _ (later_lay sr.hr na) (hr_lay sr.hr na) (.exn (fs := []) ⟨.inl rfl, .inl ⟨rfl, upd_same⟩⟩ gC rfl .nil)⟩
end
end Bx
namespace Bx
open PySem PySem.Spec PyProof.Rows L2
/-- an error with one field -/
def ErC (P : Program) (g : Gx) (c : Str) : Prop := ∃ C fI fd se x, ExC P g c C fI fd se x
/-- an error without a field -/
def Er0 (g : Gx) (c : Str) : Prop := ∃ C, g.mg c = some (.ref C) ∧ PySem.W.excIn g.K C [.type "ValueError", .type "Exception", .type "BaseException", .type "object"] "ValueError.__new__" = true ∧ PySem.W.keepIn g.K (.ref C) = true
/-- an error of the class c is one of c' -/
def subT (c c' : Str) : Bool := decide (c = c') || decide (c' = "WayError")
def exKB (K : PySem.W.Frag) (C : Addr) : Bool :=
  (PySem.W.clsIn K C).isSome && (decide (PySem.W.findIn K (.ref C) "__getattribute__" = some (some (.builtin "BaseException.__getattribute__"))) && (decide (PySem.W.findIn K (.ref C) "__getattr__" = some none) && (decide (PySem.W.subIn K (.ref C) (.type "BaseException") = some true) &&
  (PySem.W.hasDictIn K C && (decide (PySem.W.findIn K (.ref C) "__class__" = some (some (.builtin "object.__class__"))) && (decide (PySem.W.specialIn K (.builtin "object.__class__") "__get__" = some (some (.builtin "getset_descriptor.__get__"))) && (decide (PySem.W.takesIn K (.builtin "object.__class__") = some true) && decide (PySem.W.mroIn K C (.type "object") = some true))))))))
theorem exKB_ok {K : PySem.W.Frag} {C : Addr} (h : exKB K C = true) : ExK K C := by
  simp only [exKB, Bool.and_eq_true, decide_eq_true_eq] at h
  obtain ⟨h1, h2, h3, h4, h5, h6, h7, h8, h9⟩ := h
  exact ⟨h1, h2, h3, h4, h5, h6, h7, h8, h9⟩
/-- all that is asked of the classes as -/
def erB (K : PySem.W.Frag) (as : List (Str × Addr)) : Bool := as.all fun a => exKB K a.2 && (decide (PySem.W.findIn K (.ref a.2) (fldOf a.1) = some none) && (decide (PySem.W.kitOne K (.ref a.2) (.type "ValueError") = some true) && as.all fun b => decide (PySem.W.kitOne K (.ref a.2) (.ref b.2) = some (subT a.1 b.1))))
/-- the errors of the module -/
structure ErK (g : Gx) (as : List (Str × Addr)) : Prop where
  mg : ∀ a ∈ as, g.mg a.1 = some (.ref a.2)
  ok : erB g.K as = true
section
variable {P : Program} {g : Gx} {W : WX} {X : Cx} {c : Str} {k : Nat} {e : Expr} {f : Fn} {fs : Fl} {p p1 pos : Pos} {as : List (Str × Addr)}
theorem ErK.at {C : Addr} (Z : ErK g as) (hc : c ∈ as.map (·.1)) (hm : g.mg c = some (.ref C)) : (c, C) ∈ as ∧ ExK g.K C ∧ PySem.W.findIn g.K (.ref C) (fldOf c) = some none ∧ PySem.W.kitOne g.K (.ref C) (.type "ValueError") = some true ∧ ∀ b ∈ as, PySem.W.kitOne g.K (.ref C) (.ref b.2) = some (subT c b.1) := by
  obtain ⟨⟨c', C'⟩, ha, rfl⟩ := List.mem_map.mp hc
  have e := Z.mg _ ha
  rw [hm] at e
  cases e
  have z := List.all_eq_true.mp Z.ok _ ha
  simp only [Bool.and_eq_true, decide_eq_true_eq, List.all_eq_true] at z
  exact ⟨ha, exKB_ok z.1, z.2.1, z.2.2.1, fun b hb => z.2.2.2 b hb⟩
theorem look_map {tb : List Str} {v : Str → Bool} {b : Bool} (h : (tb.map fun x => (x, v x)).lookup c = some b) : c ∈ tb ∧ b = v c := by
  induction tb with
  | nil => simp at h
  | cons x tb ih =>
    rw [List.map_cons, List.lookup_cons] at h
    by_cases e : c = x
    · subst e
      simp at h
      exact ⟨by simp, h.symm⟩
    · have : (c == x) = false := by simpa using e
      rw [this] at h
      have := ih h
      exact ⟨by simp [this.1], this.2⟩
theorem v_exn (xo : XO g X) (hP : X.prog = P) (Z : ErC P g c) (hr : RmG k X.A) (hg : Gl X c) (ha : PA X [e] (tL g W fs)) (hdb : (c == ("__debug__" : Str)) = false := by decide +kernel) (he : starEach [e] X.env = [(false, eval e X.env)] := by rfl) :
    PE X (.Call (.Name c p) [e] [] pos) (tI g W (xExn c 1 fs)) := by
  obtain ⟨C, fI, fd, se, x, Z⟩ := Z
  subst hP
  exact q_exn xo Z (hr.rm.mono (by omega)) hg ha hdb he
theorem v_raise (xo : XO g X) (hP : X.prog = P) (tk : Takes X W) (Z : ErC P g c) (hr : RmG k X.A) (hg : Gl X c) (ha : PA X [e] (tL g W fs)) (hdb : (c == ("__debug__" : Str)) = false := by decide +kernel) (he : starEach [e] X.env = [(false, eval e X.env)] := by rfl) {pos' : Pos} :
    PS X (.Raise (some (.Call (.Name c p) [e] [] pos)) none pos') (tS g W (zRaise c 1 fs)) := by
  obtain ⟨C, fI, fd, se, x, Z⟩ := Z
  subst hP
  exact w_raise xo tk Z (hr.rm.mono (by omega)) hg ha hdb he
theorem v_exn0 (xo : XO g X) (Z : Er0 g c) (hg : Gl X c) (hdb : (c == ("__debug__" : Str)) = false := by decide +kernel) : PE X (.Call (.Name c p) [] [] pos) (tI g W (xExn c 0 xNil)) := by
  obtain ⟨C, gC, q, kC⟩ := Z
  exact q_exn0 xo q gC kC hg hdb
/-- isinstance(e, c), c an error's class -/
theorem v_isE (xo : XO g X) (Z : ErK g as) (hc : c ∈ as.map (·.1)) (hi : Gl X "isinstance") (hm : g.mg "isinstance" = none) (hg : Gl X c) (he : PE X e (tI g W f)) (hdb : (c == ("__debug__" : Str)) = false := by decide +kernel)
    (hs : starEach [e, .Name c p1] X.env = (false, eval e X.env) :: starEach [.Name c p1] X.env := by rfl) (hs2 : starEach [.Name c p1] X.env = [(false, eval (.Name c p1) X.env)] := by rfl) :
    PE X (.Call (.Name "isinstance" p) [e, .Name c p1] [] pos) (tI g W (xIsE ((as.map (·.1)).map fun x => (x, subT x c)) f)) := by
  obtain ⟨⟨c', C⟩, ha, rfl⟩ := List.mem_map.mp hc
  refine q_isE xo hi hm (pe_glob (v := .ref C) hg (by rw [xo.mg]; exact Z.mg _ ha) rfl hdb) (cv := .ref C) (fun u hu => hu) (fun c b hl C2 hm2 => ?_) he hs hs2
  obtain ⟨hin, rfl⟩ := look_map (v := fun x => subT x c') hl
  obtain ⟨_, k1, _, _, k2⟩ := Z.at hin hm2
  exact ⟨k1, k2 _ ha⟩
theorem v_isV (xo : XO g X) (Z : ErK g as) (hi : Gl X "isinstance") (hm : g.mg "isinstance" = none) (hg : Gl X "ValueError") (hv : g.mg "ValueError" = none) (he : PE X e (tI g W f))
    (hs : starEach [e, .Name "ValueError" p1] X.env = (false, eval e X.env) :: starEach [.Name "ValueError" p1] X.env := by rfl) (hs2 : starEach [.Name "ValueError" p1] X.env = [(false, eval (.Name "ValueError" p1) X.env)] := by rfl) :
    PE X (.Call (.Name "isinstance" p) [e, .Name "ValueError" p1] [] pos) (tI g W (xIsE ((as.map (·.1)).map fun x => (x, true)) f)) := by
  refine q_isE xo hi hm (pe_bltn (v := .ty "ValueError") hg (by rw [xo.mg]; exact hv) (by decide +kernel) rfl (by decide +kernel) (by decide +kernel)) (cv := .type "ValueError") (fun u hu => hu) (fun c b hl C2 hm2 => ?_) he hs hs2
  obtain ⟨hin, rfl⟩ := look_map (v := fun _ => true) hl
  obtain ⟨_, k1, _, k2, _⟩ := Z.at hin hm2
  exact ⟨k1, k2⟩
theorem v_fld (xo : XO g X) (Z : ErK g as) {n : Str} (he : PE X e (tI g W f)) (hb : attributeBase e n X.env (eval e X.env) = eval e X.env := by rfl) : PE X (.Attribute e n pos) (tI g W (xFld (as.map (·.1)) n f)) :=
  q_fld xo (fun c C hin hf hm => by
    obtain ⟨_, k1, k2, _, _⟩ := Z.at hin hm
    rw [← hf]
    exact ⟨k1, k2⟩) he hb
/-- the errors of the module, by their names -/
def ErN (g : Gx) (ns : List Str) : Prop := ∃ as : List (Str × Addr), as.map (·.1) = ns ∧ ErK g as
theorem u_isE {ns : List Str} (xo : XO g X) (Z : ErN g ns) (hc : c ∈ ns) (hi : Gl X "isinstance") (hm : g.mg "isinstance" = none) (hg : Gl X c) (he : PE X e (tI g W f)) (hdb : (c == ("__debug__" : Str)) = false := by decide +kernel)
    (hs : starEach [e, .Name c p1] X.env = (false, eval e X.env) :: starEach [.Name c p1] X.env := by rfl) (hs2 : starEach [.Name c p1] X.env = [(false, eval (.Name c p1) X.env)] := by rfl) :
    PE X (.Call (.Name "isinstance" p) [e, .Name c p1] [] pos) (tI g W (xIsE (ns.map fun x => (x, subT x c)) f)) := by
  obtain ⟨as, rfl, Z⟩ := Z
  exact v_isE xo Z hc hi hm hg he hdb hs hs2
theorem u_isV {ns : List Str} (xo : XO g X) (Z : ErN g ns) (hi : Gl X "isinstance") (hm : g.mg "isinstance" = none) (hg : Gl X "ValueError") (hv : g.mg "ValueError" = none) (he : PE X e (tI g W f))
    (hs : starEach [e, .Name "ValueError" p1] X.env = (false, eval e X.env) :: starEach [.Name "ValueError" p1] X.env := by rfl) (hs2 : starEach [.Name "ValueError" p1] X.env = [(false, eval (.Name "ValueError" p1) X.env)] := by rfl) :
    PE X (.Call (.Name "isinstance" p) [e, .Name "ValueError" p1] [] pos) (tI g W (xIsE (ns.map fun x => (x, true)) f)) := by
  obtain ⟨as, rfl, Z⟩ := Z
  exact v_isV xo Z hi hm hg hv he hs hs2
theorem u_fld {ns : List Str} (xo : XO g X) (Z : ErN g ns) {n : Str} (he : PE X e (tI g W f)) (hb : attributeBase e n X.env (eval e X.env) = eval e X.env := by rfl) : PE X (.Attribute e n pos) (tI g W (xFld ns n f)) := by
  obtain ⟨as, rfl, Z⟩ := Z
  exact v_fld xo Z he hb
end
end Bx
namespace Bx
open PySem PySem.Spec PyProof.Rows L2
section
variable {P : Program} {K : PySem.W.Frag} {mg : Str → Option Value} {h : Heap} {c se x : Str}
theorem erC_mk {C fI cda cc : Addr} {name qual : Str} {params : Arguments} {scope : Scope} {dV kV doc pm ct oc ccl cl : Value} {an od cdd cld : Option Addr} {osl ccs csl : Array (Option Value)} {vs : Array Value} {file : Str} {tf : Tok} {p0 p1 p2 p3 p4 p5 p6 p7 p8 p9 : Pos}
    {nm q : Str} {NN : Addr} {bs bm : List Value} {sn : List Str} {sub : List Value} {ab : Bool} {col : Option Bool} {dd : Option Addr} {k0 k1 k2 k3 k5 : Option Value}
    (X : K.In h) (N : h.Ns mainGlobals mg)
    (a : PySem.W.nsIn K mainGlobals c = some (some (.ref C)))
    (i : PySem.W.findIn K (.ref C) "__init__" = some (some (.ref fI)))
    (l : K.lookup fI = some ⟨oc, od, .func (PySem.W.ksFn name qual params (supBody se x (fldOf c) p0 p1 p2 p3 p4 p5 p6 p7 p8 p9) scope dV kV doc pm an (.ref cda) ct cc), osl⟩)
    (cd : PySem.W.codeIn K (.ref cda) qual = true)
    (lc : K.lookup cda = some ⟨ccl, cdd, .fields vs, ccs⟩)
    (ce : K.lookup cc = some ⟨cl, cld, .cell (some (.ref C)), csl⟩)
    (oC : K.lookup C = some (excClassObj nm q C NN bs bm true sn sub ab col dd k0 k1 k2 k3 k5 "ValueError.__new__"))
    (sa : PySem.W.findIn K (.ref C) "__setattr__" = some (some (.builtin "object.__setattr__")))
    (bx : PySem.W.subIn K (.ref C) (.type "BaseException") = some true)
    (ty : PySem.W.typeIn K (.ref C) = some (.type "type"))
    (kC : PySem.W.keepIn K (.ref C) = true)
    (tf1 : PySem.W.typeIn K (.ref fI) = some (.type "function"))
    (su : PySem.W.nsIn K mainGlobals "super" = some none)
    (oq : PySem.W.nsIn K cStatics "thirdparty.any" = some none)
    (ve : PySem.W.subIn K (.ref C) (.type "ValueError") = some true)
    (mr : PySem.W.mroIn K C (.ref C) = some true)
    (ni : PySem.W.ks_superIn K C C "__init__" = some (some (.builtin "ValueError.__init__")))
    (xi : PySem.W.excInitIn K C [.type "ValueError", .type "Exception", .type "BaseException", .type "object"] "ValueError.__new__" = true)
    (fo : PySem.W.findIn K (.ref C) (fldOf c) = some none)
    (v2 : vs[2]? = some (.str file tf)) (fl : ((P.main.file : Str) == file) = true)
    (hp : ((params.posonlyargs ++ params.args).head?.map (·.arg)) = some se)
    (s1 : scope.names.lookup ("super" : Str) = some .globalImplicit) (s2 : scope.names.lookup ("__class__" : Str) = some .free) (s3 : scope.names.lookup se = some .local) (s4 : scope.names.lookup x = some .local)
    (s5 : scope.names.all (fun y => decide (y.2 ≠ .cell)) = true) (s6 : scope.isCoroutine = false) (s7 : scope.isGenerator = false) (s8 : scope.kind = .function)
    (ev : ∀ L : Addr, interactive (callEnv (PySem.W.ksFn name qual params (supBody se x (fldOf c) p0 p1 p2 p3 p4 p5 p6 p7 p8 p9) scope dV kV doc pm an (.ref cda) ct cc) L fI) = false ∧
      swapsWith (.Call (.Attribute (.Call (.Name "super" p0) [] [] p1) "__init__" p2) [.Name x p3] [] p4) none p5.line (callEnv (PySem.W.ksFn name qual params (supBody se x (fldOf c) p0 p1 p2 p3 p4 p5 p6 p7 p8 p9) scope dV kV doc pm an (.ref cda) ct cc) L fI) = pure false ∧
      swapsWith (.Name x p8) (some (.Attribute (.Name se p6) (fldOf c) p7)) p9.line (callEnv (PySem.W.ksFn name qual params (supBody se x (fldOf c) p0 p1 p2 p3 p4 p5 p6 p7 p8 p9) scope dV kV doc pm an (.ref cda) ct cc) L fI) = pure false ∧
      starEach [.Name x p3] (callEnv (PySem.W.ksFn name qual params (supBody se x (fldOf c) p0 p1 p2 p3 p4 p5 p6 p7 p8 p9) scope dV kV doc pm an (.ref cda) ct cc) L fI) = [(false, eval (.Name x p3) (callEnv (PySem.W.ksFn name qual params (supBody se x (fldOf c) p0 p1 p2 p3 p4 p5 p6 p7 p8 p9) scope dV kV doc pm an (.ref cda) ct cc) L fI))] ∧
      ∃ pl : Sem Bool, eval (.Call (.Attribute (.Call (.Name "super" p0) [] [] p1) "__init__" p2) [.Name x p3] [] p4) (callEnv (PySem.W.ksFn name qual params (supBody se x (fldOf c) p0 p1 p2 p3 p4 p5 p6 p7 p8 p9) scope dV kV doc pm an (.ref cda) ct cc) L fI) = (do
        let ov ← attributeBase (.Call (.Name "super" p0) [] [] p1) "__init__" (callEnv (PySem.W.ksFn name qual params (supBody se x (fldOf c) p0 p1 p2 p3 p4 p5 p6 p7 p8 p9) scope dV kV doc pm an (.ref cda) ct cc) L fI) (eval (.Call (.Name "super" p0) [] [] p1) (callEnv (PySem.W.ksFn name qual params (supBody se x (fldOf c) p0 p1 p2 p3 p4 p5 p6 p7 p8 p9) scope dV kV doc pm an (.ref cda) ct cc) L fI))
        standAt p2.atName
        let (q, first) ← holding [ov] (getMethod ov "__init__" pl)
        callWith p4 q first (backTo p4 (starEach [.Name x p3] (callEnv (PySem.W.ksFn name qual params (supBody se x (fldOf c) p0 p1 p2 p3 p4 p5 p6 p7 p8 p9) scope dV kV doc pm an (.ref cda) ct cc) L fI))) []))
    (rf : PySem.HandSPX.refsVE bm = true) (n1 : se ≠ x) (n2 : (x == ("__debug__" : Str)) = false) (n3 : (se == ("__debug__" : Str)) = false)
    (tp : (P.main.scope.names.lookup ("super" : Str)).isSome = false)
    (bd : ∀ us : List Value, us.length = 2 → bindArgs (PySem.W.ksFn name qual params (supBody se x (fldOf c) p0 p1 p2 p3 p4 p5 p6 p7 p8 p9) scope dV kV doc pm an (.ref cda) ct cc) ⟨us, []⟩ = pure ([se, x].zip us)) :
    ErC P ⟨K, mg⟩ c :=
  ⟨C, fI, _, se, x, ⟨⟨⟨⟨nm, q, NN, bs, bm, sn, sub, ab, col, dd, k0, k1, k2, k3, k5, oC, rf⟩, sa, bx, ty, kC⟩,
    ⟨name, qual, params, scope, dV, kV, doc, pm, an, cda, ct, cc, oc, od, osl, p0, p1, p2, p3, p4, p5, p6, p7, p8, p9, rfl, l, cd, hp, ⟨ccl, cdd, vs, ccs, file, tf, lc, v2, fl⟩, ⟨cl, cld, csl, ce⟩, s1, s2, s3, s4,
      fun y hy => of_decide_eq_true (List.all_eq_true.mp s5 y hy), s6, s7, s8, ev⟩,
    n1, n2, n3, PySem.W.mg_none_of X N su, tp, mr, ni, oq, ve, xi, fo⟩, PySem.W.mg_of X N a, i, tf1, Binds.all bd⟩⟩
theorem er0_mk {C : Addr} (X : K.In h) (N : h.Ns mainGlobals mg) (a : PySem.W.nsIn K mainGlobals c = some (some (.ref C))) (q : PySem.W.excIn K C [.type "ValueError", .type "Exception", .type "BaseException", .type "object"] "ValueError.__new__" = true) (k : PySem.W.keepIn K (.ref C) = true) : Er0 ⟨K, mg⟩ c :=
  ⟨C, PySem.W.mg_of X N a, q, k⟩
theorem erN_nil : ∀ a ∈ ([] : List (Str × Addr)), mg a.1 = some (.ref a.2) := fun a h => by cases h
theorem erN_cons {C : Addr} {as : List (Str × Addr)} (X : K.In h) (N : h.Ns mainGlobals mg) (a : PySem.W.nsIn K mainGlobals c = some (some (.ref C))) (t : ∀ a ∈ as, mg a.1 = some (.ref a.2)) : ∀ a ∈ (c, C) :: as, mg a.1 = some (.ref a.2) := fun b hb => by
  rcases List.mem_cons.mp hb with rfl | hb
  · exact PySem.W.mg_of X N a
  · exact t b hb
theorem erN_mk {as : List (Str × Addr)} {ns : List Str} (m : ∀ a ∈ as, mg a.1 = some (.ref a.2)) (e : as.map (·.1) = ns) (b : erB K as = true) : ErN ⟨K, mg⟩ ns := ⟨as, e, m, b⟩
end
end Bx
namespace K10
open PySem PySem.Spec PyProof.Rows L2 Bx
def ern : List Str := ["WayError", "Wrong", "TooMany", "NoName", "Twice", "Idle", "BadEquality", "NoLabel", "NoEquality", "Ring", "NoWay", "Unlike", "NoPlace", "NoState", "Nothing", "NoText", "NoCommand"]
noncomputable def b__law_bag (cl : Str → List D → Hh → Res D) : Fs :=
  zRet (xNlst (xCons (xC (.int 0)) (xCons (xC (.int 1234567891)) (xCons (xC (.int 0)) (xCons (xLcG lcF (iV (xSlc (xV 0) (xNo) (xSome (xC (.int 63))))) [1] (gN 1) (yYes) (xBi .abs (xCons (xV 1) (xNil)))) (xNil))))))
noncomputable def fd__law_bag : Fd := ⟨1, 2, b__law_bag⟩
noncomputable def b__law_take (cl : Str → List D → Hh → Res D) : Fs :=
  zSeq (zIf (yV (xBin eqD (xIdx (xV 0) (xC (.int 0))) (xC (.int 0)))) (zSeq (zSet 4 (xC (.int 0)))
    (zSeq (zIf (yV (xBin ltD (xIdx (xV 0) (xC (.int 2))) (xBi .len (xCons (xIdx (xV 0) (xC (.int 3))) (xNil))))) (zSet 4 (xIdx (xIdx (xV 0) (xC (.int 3))) (xIdx (xV 0) (xC (.int 2))))) (zNext))
    (zSeq (zAugIx iaddD (xV 0) (xC (.int 2)) (xC (.int 1)))
    (zSeq (zIf (yV (xBin geD (xV 4) (xC (.int 1000000000000000000)))) (zSetIx (xV 0) (xC (.int 0)) (xV 4)) (zNext))
    (zSeq (zSet 5 (xBin addD (xBin addD (xBin mulD (xIdx (xV 0) (xC (.int 1))) (xC (.int 48271))) (xBin modD (xBi .int (xCons (xV 4) (xNil))) (xC (.int 2147483647)))) (xBin mulD (xC (.int 7919)) (xIdx (xV 0) (xC (.int 2))))))
    (zSetIx (xV 0) (xC (.int 1)) (xBin modD (xBi .int (xCons (xV 5) (xNil))) (xC (.int 2147483647))))))))) (zNext))
    (zSeq (zIf (yV (xBin gtD (xIdx (xV 0) (xC (.int 0))) (xC (.int 0)))) (zSeq (zSet 6 (xBin modD (xBi .int (xCons (xIdx (xV 0) (xC (.int 0))) (xNil))) (xV 1)))
    (zSeq (zSetIx (xV 0) (xC (.int 0)) (xBin fdivD (xIdx (xV 0) (xC (.int 0))) (xV 1)))
    (zRet (xV 6)))) (zNext))
    (zSeq (zSet 2 (xBin modD (xBi .int (xCons (xBin mulD (xBin addD (xIdx (xV 0) (xC (.int 1))) (xC (.int 1))) (xC (.int 39373))) (xNil))) (xC (.int 1000000007))))
    (zSeq (zSet 3 (xBin modD (xBi .int (xCons (xBin mulD (xBin modD (xBi .int (xCons (xBin mulD (xV 2) (xV 2)) (xNil))) (xC (.int 998244353))) (xC (.int 30011))) (xNil))) (xC (.int 998244353))))
    (zSeq (zIf (yV (xBin gtD (xV 1) (xC (.int 1000000)))) (zRet (xBin modD (xBi .int (xCons (xBin addD (xBin mulD (xV 3) (xC (.int 1000000007))) (xV 2)) (xNil))) (xV 1))) (zNext))
    (zRet (xBin modD (xBi .int (xCons (xBin fdivD (xV 3) (xC (.int 7))) (xNil))) (xV 1)))))))
noncomputable def fd__law_take : Fd := ⟨2, 7, b__law_take⟩
noncomputable def b__law_alike (cl : Str → List D → Hh → Res D) : Fs :=
  zRet (xAnd (xBin eqD (xV 0) (xV 1)) (xBin eqD (xBi .repr (xCons (xV 0) (xNil))) (xBi .repr (xCons (xV 1) (xNil)))))
noncomputable def fd__law_alike : Fd := ⟨2, 2, b__law_alike⟩
noncomputable def b__law_errors (cl : Str → List D → Hh → Res D) : Fs :=
  zSeq (zSet 1 (xLst (xCons (xExn "Wrong" 1 (xCons (xV 0) (xNil))) (xCons (xExn "TooMany" 1 (xCons (xV 0) (xNil))) (xCons (xExn "NoName" 1 (xCons (xV 0) (xNil))) (xCons (xExn "Twice" 1 (xCons (xV 0) (xNil))) (xCons (xExn "Idle" 1 (xCons (xV 0) (xNil))) (xCons (xExn "BadEquality" 1 (xCons (xV 0) (xNil))) (xCons (xExn "NoLabel" 1 (xCons (xV 0) (xNil))) (xCons (xExn "NoEquality" 1 (xCons (xV 0) (xNil))) (xCons (xExn "Ring" 1 (xCons (xV 0) (xNil))) (xNil))))))))))))
    (zRet (xBin addD (xV 1) (xLst (xCons (xExn "NoPlace" 1 (xCons (xV 0) (xNil))) (xCons (xExn "NoState" 1 (xCons (xV 0) (xNil))) (xCons (xExn "NoText" 1 (xCons (xV 0) (xNil))) (xCons (xExn "NoWay" 0 xNil) (xCons (xExn "Unlike" 0 xNil) (xCons (xExn "Nothing" 0 xNil) (xCons (xExn "NoCommand" 0 xNil) (xNil)))))))))))
noncomputable def fd__law_errors : Fd := ⟨1, 2, b__law_errors⟩
noncomputable def b__law_flags (cl : Str → List D → Hh → Res D) : Fs :=
  zSeq (zSet 1 (xLst (xCons (xIsE (ern.map fun x => (x, subT x "Wrong")) (xV 0)) (xCons (xIsE (ern.map fun x => (x, subT x "TooMany")) (xV 0)) (xCons (xIsE (ern.map fun x => (x, subT x "NoName")) (xV 0)) (xCons (xIsE (ern.map fun x => (x, subT x "Twice")) (xV 0)) (xNil)))))))
    (zSeq (zSet 1 (xBin addD (xV 1) (xLst (xCons (xIsE (ern.map fun x => (x, subT x "Idle")) (xV 0)) (xCons (xIsE (ern.map fun x => (x, subT x "BadEquality")) (xV 0)) (xCons (xIsE (ern.map fun x => (x, subT x "NoLabel")) (xV 0)) (xNil)))))))
    (zSeq (zSet 1 (xBin addD (xV 1) (xLst (xCons (xIsE (ern.map fun x => (x, subT x "NoEquality")) (xV 0)) (xCons (xIsE (ern.map fun x => (x, subT x "Ring")) (xV 0)) (xCons (xIsE (ern.map fun x => (x, subT x "NoPlace")) (xV 0)) (xNil)))))))
    (zSeq (zSet 1 (xBin addD (xV 1) (xLst (xCons (xIsE (ern.map fun x => (x, subT x "NoState")) (xV 0)) (xCons (xIsE (ern.map fun x => (x, subT x "NoText")) (xV 0)) (xNil))))))
    (zRet (xBin addD (xV 1) (xLst (xCons (xIsE (ern.map fun x => (x, subT x "NoWay")) (xV 0)) (xCons (xIsE (ern.map fun x => (x, subT x "Unlike")) (xV 0)) (xCons (xIsE (ern.map fun x => (x, subT x "Nothing")) (xV 0)) (xCons (xIsE (ern.map fun x => (x, subT x "NoCommand")) (xV 0)) (xNil)))))))))))
noncomputable def fd__law_flags : Fd := ⟨1, 2, b__law_flags⟩
noncomputable def b__law_fields (cl : Str → List D → Hh → Res D) : Fs :=
  zSeq (zSet 1 (xLst (xCons (xFld ern "place" (xIdx (xV 0) (xC (.int 0)))) (xCons (xFld ern "most" (xIdx (xV 0) (xC (.int 1)))) (xCons (xFld ern "name" (xIdx (xV 0) (xC (.int 2)))) (xCons (xFld ern "label" (xIdx (xV 0) (xC (.int 3)))) (xCons (xFld ern "label" (xIdx (xV 0) (xC (.int 4)))) (xCons (xFld ern "index" (xIdx (xV 0) (xC (.int 5)))) (xCons (xFld ern "label" (xIdx (xV 0) (xC (.int 6)))) (xNil))))))))))
    (zRet (xBin addD (xV 1) (xLst (xCons (xFld ern "index" (xIdx (xV 0) (xC (.int 7)))) (xCons (xFld ern "row" (xIdx (xV 0) (xC (.int 8)))) (xCons (xFld ern "index" (xIdx (xV 0) (xC (.int 9)))) (xCons (xFld ern "state" (xIdx (xV 0) (xC (.int 10)))) (xCons (xFld ern "line" (xIdx (xV 0) (xC (.int 11)))) (xNil)))))))))
noncomputable def fd__law_fields : Fd := ⟨1, 2, b__law_fields⟩
noncomputable def b_law (cl : Str → List D → Hh → Res D) : Fs :=
  zSeq (zSet 1 (xCall 1 (cl "_law_bag") (xCons (xV 0) (xNil))))
    (zSeq (zFor (iR1 (xCons (xC (.int 4)) (xNil))) (gN 2) (zSeq (zSet 3 (xLst (xCons (xC .non) (xCons (xC (.bl true)) (xCons (xC (.int 0)) (xCons (xBin powD (xC (.int 10)) (xC (.int 39))) (xCons (xC (.str "a")) (xCons (xTup (xNil)) (xCons (xDct0) (xCons (xTup (xCons (xC (.str "a")) (xCons (xC (.str "b")) (xNil)))) (xCons (xUn negD (xC (.int 1))) (xNil))))))))))))
    (zSeq (zSet 4 (xIfe (yV (xBin eqD (xCall 2 (cl "_law_take") (xCons (xV 1) (xCons (xC (.int 3)) (xNil)))) (xC (.int 0)))) (xIdx (xV 3) (xCall 2 (cl "_law_take") (xCons (xV 1) (xCons (xC (.int 9)) (xNil))))) (xNlst (xCons (xCall 2 (cl "_law_take") (xCons (xV 1) (xCons (xC (.int 9)) (xNil)))) (xNil)))))
    (zSeq (zSet 5 (xCall 1 (cl "_law_errors") (xCons (xV 4) (xNil))))
    (zSeq (zFor (iR1 (xCons (xC (.int 16)) (xNil))) (gN 6) (zSeq (zIf (yV (xBin neD (xCall 1 (cl "_law_flags") (xCons (xIdx (xV 5) (xV 6)) (xNil))) (xLcG lcF (iR1 (xCons (xC (.int 16)) (xNil))) [7] (gN 7) (yYes) (xBin eqD (xV 7) (xV 6))))) (zRet (xC (.bl false))) (zNext))
    (zIf (yOr (yNot (yV (xIsE (ern.map fun x => (x, subT x "WayError")) (xIdx (xV 5) (xV 6))))) (yNot (yV (xIsE (ern.map fun x => (x, true)) (xIdx (xV 5) (xV 6)))))) (zRet (xC (.bl false))) (zNext))))
    (zSeq (zIf (yV (xBi .isi (xCons (xV 4) (xCons (xC (.val (.ty "list"))) (xNil))))) (zExpr (xM mApp (xV 4) (xCons (xC (.str "more")) (xNil)))) (zNext))
    (zIf (yOr (yNot (yV (xCall 2 (cl "_law_alike") (xCons (xCall 1 (cl "_law_fields") (xCons (xV 5) (xNil))) (xCons (xBin mulD (xLst (xCons (xV 4) (xNil))) (xC (.int 12))) (xNil)))))) (yV (xBin neD (xCall 1 (cl "_law_flags") (xCons (xExn "WayError" 0 xNil) (xNil))) (xBin mulD (xLst (xCons (xC (.bl false)) (xNil))) (xC (.int 16)))))) (zRet (xC (.bl false))) (zNext))))))))
    (zRet (xC (.bl true))))
noncomputable def fd_law : Fd := ⟨1, 8, b_law⟩
noncomputable def tab : Tab := fun x => if x = "_law_bag" then some fd__law_bag else if x = "_law_take" then some fd__law_take else if x = "_law_alike" then some fd__law_alike else if x = "_law_errors" then some fd__law_errors else if x = "_law_flags" then some fd__law_flags else if x = "_law_fields" then some fd__law_fields else if x = "law" then some fd_law else none
theorem t__law_bag : tab "_law_bag" = some fd__law_bag := by unfold tab; rw [if_pos rfl]
theorem t__law_take : tab "_law_take" = some fd__law_take := by unfold tab; rw [if_neg (by decide +kernel)]; rw [if_pos rfl]
theorem t__law_alike : tab "_law_alike" = some fd__law_alike := by unfold tab; rw [if_neg (by decide +kernel)]; rw [if_neg (by decide +kernel)]; rw [if_pos rfl]
theorem t__law_errors : tab "_law_errors" = some fd__law_errors := by unfold tab; rw [if_neg (by decide +kernel)]; rw [if_neg (by decide +kernel)]; rw [if_neg (by decide +kernel)]; rw [if_pos rfl]
theorem t__law_flags : tab "_law_flags" = some fd__law_flags := by unfold tab; rw [if_neg (by decide +kernel)]; rw [if_neg (by decide +kernel)]; rw [if_neg (by decide +kernel)]; rw [if_neg (by decide +kernel)]; rw [if_pos rfl]
theorem t__law_fields : tab "_law_fields" = some fd__law_fields := by unfold tab; rw [if_neg (by decide +kernel)]; rw [if_neg (by decide +kernel)]; rw [if_neg (by decide +kernel)]; rw [if_neg (by decide +kernel)]; rw [if_neg (by decide +kernel)]; rw [if_pos rfl]
theorem t_law : tab "law" = some fd_law := by unfold tab; rw [if_neg (by decide +kernel)]; rw [if_neg (by decide +kernel)]; rw [if_neg (by decide +kernel)]; rw [if_neg (by decide +kernel)]; rw [if_neg (by decide +kernel)]; rw [if_neg (by decide +kernel)]; rw [if_pos rfl]
end K10
namespace K10
open PySem PySem.Spec PyProof.Rows L2 Bx
def topS (i : Nat) : Stmt := PySem.Challenge.pw_unaskedways_k10_errors_apart.main.body.getD i (.Pass ⟨0, 0, 0, 0⟩)
structure GF (P : Program) (wo : World) (g : Gx) : Prop where
  z_len : g.mg "len" = none
  z_list : g.mg "list" = none
  z_tuple : g.mg "tuple" = none
  z_sum : g.mg "sum" = none
  z_max : g.mg "max" = none
  z_min : g.mg "min" = none
  z_abs : g.mg "abs" = none
  z_int : g.mg "int" = none
  z_sorted : g.mg "sorted" = none
  z_repr : g.mg "repr" = none
  z_all : g.mg "all" = none
  z_any : g.mg "any" = none
  z_isinstance : g.mg "isinstance" = none
  z_ValueError : g.mg "ValueError" = none
  z_range : g.mg "range" = none
  er : ErN g ern
  y_WayError : Er0 g "WayError"
  x_Wrong : ErC P g "Wrong"
  x_TooMany : ErC P g "TooMany"
  x_NoName : ErC P g "NoName"
  x_Twice : ErC P g "Twice"
  x_Idle : ErC P g "Idle"
  x_BadEquality : ErC P g "BadEquality"
  x_NoLabel : ErC P g "NoLabel"
  x_NoEquality : ErC P g "NoEquality"
  x_Ring : ErC P g "Ring"
  y_NoWay : Er0 g "NoWay"
  y_Unlike : Er0 g "Unlike"
  x_NoPlace : ErC P g "NoPlace"
  x_NoState : ErC P g "NoState"
  y_Nothing : Er0 g "Nothing"
  x_NoText : ErC P g "NoText"
  y_NoCommand : Er0 g "NoCommand"
theorem GF.nb {P : Program} {wo : World} {g : Gx} (G : GF P wo g) : ∀ b : Bi, g.mg (biN b) = none
  | .len => G.z_len
  | .list => G.z_list
  | .nlist => G.z_list
  | .tuple => G.z_tuple
  | .sum => G.z_sum
  | .max => G.z_max
  | .min => G.z_min
  | .abs => G.z_abs
  | .int => G.z_int
  | .sorted => G.z_sorted
  | .nsorted => G.z_sorted
  | .repr => G.z_repr
  | .all => G.z_all
  | .any => G.z_any
  | .isi => G.z_isinstance
section
variable {P : Program} {wo : World} {g : Gx} {base : Heap} {k : Nat}
abbrev s__law_bag : Stmt := topS 19
theorem sc__law_bag : FnScope ["_law_script", "_law_cell"] ["_law_script"] (defScope s__law_bag) := ⟨rfl, rfl, rfl, by decide +kernel, rfl, by decide +kernel, by decide +kernel⟩
theorem p__law_bag (G : GF P wo g) (DS : Defs P wo g base tab k) {f : Addr} (cdv : Value) (A : Around) (out : List Env) (s : Shared) (H : Hp) (E : XK) (hr : RmG k (A.deeper (envOfC "_law_bag" (defScope s__law_bag) s.heap.objs.size f cdv))) :
    PSs (bx P wo g base ["_law_script", "_law_cell"] "_law_bag" (defScope s__law_bag) f cdv A out s H E) (defBody s__law_bag) (tS g (fun c d _ H => E c d H) (b__law_bag (callN tab k))) :=
  have xo := bx_ok (P := P) (wo := wo) (g := g) (base := base) (out := out) (H := H) (E := E) sc__law_bag hr
  have tk : Takes (bx P wo g base ["_law_script", "_law_cell"] "_law_bag" (defScope s__law_bag) f cdv A out s H E) (fun c d _ H => E c d H) := takes_of rfl rfl rfl rfl
  have po : PassesOwn (model P wo) (bx P wo g base ["_law_script", "_law_cell"] "_law_bag" (defScope s__law_bag) f cdv A out s H E).A (bx P wo g base ["_law_script", "_law_cell"] "_law_bag" (defScope s__law_bag) f cdv A out s H E).env (bx P wo g base ["_law_script", "_law_cell"] "_law_bag" (defScope s__law_bag) f cdv A out s H E).xe := passes_of rfl
  q_sone (q_ret (q_nlst (q_cons (q_int) (q_cons (q_int) (q_cons (q_int) (q_cons (w_lc (fun _ => hands_frz) (own := [("_law_cell", 1)]) xo (blkOk_by (N := ["_law_script", "_law_cell"]) (sc := defScope s__law_bag) (by decide +kernel)) (q_it (q_slc xo (q_var (pv 0)) (q_no) (q_some (q_int)))) (fun _ _ _ _ _ => q_gn (pg_name (i := 1) (XO.blk (xo)).nd rfl (.inl rfl))) (fun _ _ _ _ _ => q_pts0) (fun _ _ _ _ _ => w_bi (XO.blk (xo)) .abs G.nb (by rfl) rfl (q_cons (q_var (pv 1)) (q_nil)))) (q_nil)))))))
abbrev s__law_take : Stmt := topS 20
theorem sc__law_take : FnScope ["_law_bag_here", "_law_many", "_law_begin", "_law_second", "_law_cell", "_law_mixed", "_law_value"] ["_law_bag_here", "_law_many"] (defScope s__law_take) := ⟨rfl, rfl, rfl, by decide +kernel, rfl, by decide +kernel, by decide +kernel⟩
theorem p__law_take (G : GF P wo g) (DS : Defs P wo g base tab k) {f : Addr} (cdv : Value) (A : Around) (out : List Env) (s : Shared) (H : Hp) (E : XK) (hr : RmG k (A.deeper (envOfC "_law_take" (defScope s__law_take) s.heap.objs.size f cdv))) :
    PSs (bx P wo g base ["_law_bag_here", "_law_many", "_law_begin", "_law_second", "_law_cell", "_law_mixed", "_law_value"] "_law_take" (defScope s__law_take) f cdv A out s H E) (defBody s__law_take) (tS g (fun c d _ H => E c d H) (b__law_take (callN tab k))) :=
  have xo := bx_ok (P := P) (wo := wo) (g := g) (base := base) (out := out) (H := H) (E := E) sc__law_take hr
  have tk : Takes (bx P wo g base ["_law_bag_here", "_law_many", "_law_begin", "_law_second", "_law_cell", "_law_mixed", "_law_value"] "_law_take" (defScope s__law_take) f cdv A out s H E) (fun c d _ H => E c d H) := takes_of rfl rfl rfl rfl
  have po : PassesOwn (model P wo) (bx P wo g base ["_law_bag_here", "_law_many", "_law_begin", "_law_second", "_law_cell", "_law_mixed", "_law_value"] "_law_take" (defScope s__law_take) f cdv A out s H E).A (bx P wo g base ["_law_bag_here", "_law_many", "_law_begin", "_law_second", "_law_cell", "_law_mixed", "_law_value"] "_law_take" (defScope s__law_take) f cdv A out s H E).env (bx P wo g base ["_law_bag_here", "_law_many", "_law_begin", "_law_second", "_law_cell", "_law_mixed", "_law_value"] "_law_take" (defScope s__law_take) f cdv A out s H E).xe := passes_of rfl
  q_seq (q_if (q_tcmp (fun _ => (eq_ok xo)) (q_idx xo (q_var (pv 0)) (q_int)) (q_int)) (q_seq (w_set xo rfl (.inl rfl) (q_int))
    (q_seq (q_if (q_tcmp (fun _ => (lt_ok xo)) (q_idx xo (q_var (pv 0)) (q_int)) (w_bi xo .len G.nb (by rfl) rfl (q_cons (q_idx xo (q_var (pv 0)) (q_int)) (q_nil)))) (q_sone (w_set xo rfl (.inl rfl) (q_idx xo (q_idx xo (q_var (pv 0)) (q_int)) (q_idx xo (q_var (pv 0)) (q_int))))) (q_snil))
    (q_seq (w_augix (q_var (pv 0)) (q_int) (q_int))
    (q_seq (q_if (q_tcmp (fun _ => (ge_ok xo)) (q_var (pv 4)) (q_int)) (q_sone (w_setix (q_var (pv 4)) (q_var (pv 0)) (q_int))) (q_snil))
    (q_seq (w_set xo rfl (.inl rfl) (q_bin (fun _ => add_ok) (q_bin (fun _ => add_ok) (q_bin (fun _ => mul_ok) (q_idx xo (q_var (pv 0)) (q_int)) (q_int)) (q_bin (fun _ => mod_ok) (w_bi xo .int G.nb (by rfl) rfl (q_cons (q_var (pv 4)) (q_nil))) (q_int))) (q_bin (fun _ => mul_ok) (q_int) (q_idx xo (q_var (pv 0)) (q_int)))))
    (q_sone (w_setix (q_bin (fun _ => mod_ok) (w_bi xo .int G.nb (by rfl) rfl (q_cons (q_var (pv 5)) (q_nil))) (q_int)) (q_var (pv 0)) (q_int)))))))) (q_snil))
    (q_seq (q_if (q_tcmp (fun _ => (gt_ok xo)) (q_idx xo (q_var (pv 0)) (q_int)) (q_int)) (q_seq (w_set xo rfl (.inl rfl) (q_bin (fun _ => mod_ok) (w_bi xo .int G.nb (by rfl) rfl (q_cons (q_idx xo (q_var (pv 0)) (q_int)) (q_nil))) (q_var (pv 1))))
    (q_seq (w_setix (q_bin (fun _ => fdiv_ok) (q_idx xo (q_var (pv 0)) (q_int)) (q_var (pv 1))) (q_var (pv 0)) (q_int))
    (q_sone (q_ret (q_var (pv 6)))))) (q_snil))
    (q_seq (w_set xo rfl (.inl rfl) (q_bin (fun _ => mod_ok) (w_bi xo .int G.nb (by rfl) rfl (q_cons (q_bin (fun _ => mul_ok) (q_bin (fun _ => add_ok) (q_idx xo (q_var (pv 0)) (q_int)) (q_int)) (q_int)) (q_nil))) (q_int)))
    (q_seq (w_set xo rfl (.inl rfl) (q_bin (fun _ => mod_ok) (w_bi xo .int G.nb (by rfl) rfl (q_cons (q_bin (fun _ => mul_ok) (q_bin (fun _ => mod_ok) (w_bi xo .int G.nb (by rfl) rfl (q_cons (q_bin (fun _ => mul_ok) (q_var (pv 2)) (q_var (pv 2))) (q_nil))) (q_int)) (q_int)) (q_nil))) (q_int)))
    (q_seq (q_if (q_tcmp (fun _ => (gt_ok xo)) (q_var (pv 1)) (q_int)) (q_sone (q_ret (q_bin (fun _ => mod_ok) (w_bi xo .int G.nb (by rfl) rfl (q_cons (q_bin (fun _ => add_ok) (q_bin (fun _ => mul_ok) (q_var (pv 3)) (q_int)) (q_var (pv 2))) (q_nil))) (q_var (pv 1))))) (q_snil))
    (q_sone (q_ret (q_bin (fun _ => mod_ok) (w_bi xo .int G.nb (by rfl) rfl (q_cons (q_bin (fun _ => fdiv_ok) (q_var (pv 3)) (q_int)) (q_nil))) (q_var (pv 1)))))))))
abbrev s__law_alike : Stmt := topS 21
theorem sc__law_alike : FnScope ["_law_found", "_law_due"] ["_law_found", "_law_due"] (defScope s__law_alike) := ⟨rfl, rfl, rfl, by decide +kernel, rfl, by decide +kernel, by decide +kernel⟩
theorem p__law_alike (G : GF P wo g) (DS : Defs P wo g base tab k) {f : Addr} (cdv : Value) (A : Around) (out : List Env) (s : Shared) (H : Hp) (E : XK) (hr : RmG k (A.deeper (envOfC "_law_alike" (defScope s__law_alike) s.heap.objs.size f cdv))) :
    PSs (bx P wo g base ["_law_found", "_law_due"] "_law_alike" (defScope s__law_alike) f cdv A out s H E) (defBody s__law_alike) (tS g (fun c d _ H => E c d H) (b__law_alike (callN tab k))) :=
  have xo := bx_ok (P := P) (wo := wo) (g := g) (base := base) (out := out) (H := H) (E := E) sc__law_alike hr
  have tk : Takes (bx P wo g base ["_law_found", "_law_due"] "_law_alike" (defScope s__law_alike) f cdv A out s H E) (fun c d _ H => E c d H) := takes_of rfl rfl rfl rfl
  have po : PassesOwn (model P wo) (bx P wo g base ["_law_found", "_law_due"] "_law_alike" (defScope s__law_alike) f cdv A out s H E).A (bx P wo g base ["_law_found", "_law_due"] "_law_alike" (defScope s__law_alike) f cdv A out s H E).env (bx P wo g base ["_law_found", "_law_due"] "_law_alike" (defScope s__law_alike) f cdv A out s H E).xe := passes_of rfl
  q_sone (q_ret (q_and (q_cmp (fun _ => (eq_ok xo)) (q_var (pv 0)) (q_var (pv 1))) (q_one (q_cmp (fun _ => (eq_ok xo)) (w_bi xo .repr G.nb (by rfl) rfl (q_cons (q_var (pv 0)) (q_nil))) (w_bi xo .repr G.nb (by rfl) rfl (q_cons (q_var (pv 1)) (q_nil)))))))
abbrev s__law_errors : Stmt := topS 22
theorem sc__law_errors : FnScope ["_law_x", "_law_found"] ["_law_x"] (defScope s__law_errors) := ⟨rfl, rfl, rfl, by decide +kernel, rfl, by decide +kernel, by decide +kernel⟩
theorem p__law_errors (G : GF P wo g) (DS : Defs P wo g base tab k) {f : Addr} (cdv : Value) (A : Around) (out : List Env) (s : Shared) (H : Hp) (E : XK) (hr : RmG k (A.deeper (envOfC "_law_errors" (defScope s__law_errors) s.heap.objs.size f cdv))) :
    PSs (bx P wo g base ["_law_x", "_law_found"] "_law_errors" (defScope s__law_errors) f cdv A out s H E) (defBody s__law_errors) (tS g (fun c d _ H => E c d H) (b__law_errors (callN tab k))) :=
  have xo := bx_ok (P := P) (wo := wo) (g := g) (base := base) (out := out) (H := H) (E := E) sc__law_errors hr
  have tk : Takes (bx P wo g base ["_law_x", "_law_found"] "_law_errors" (defScope s__law_errors) f cdv A out s H E) (fun c d _ H => E c d H) := takes_of rfl rfl rfl rfl
  have po : PassesOwn (model P wo) (bx P wo g base ["_law_x", "_law_found"] "_law_errors" (defScope s__law_errors) f cdv A out s H E).A (bx P wo g base ["_law_x", "_law_found"] "_law_errors" (defScope s__law_errors) f cdv A out s H E).env (bx P wo g base ["_law_x", "_law_found"] "_law_errors" (defScope s__law_errors) f cdv A out s H E).xe := passes_of rfl
  q_seq (w_set xo rfl (.inl rfl) (q_lst (q_cons (v_exn xo rfl G.x_Wrong hr (by rfl) (q_cons (q_var (pv 0)) (q_nil))) (q_cons (v_exn xo rfl G.x_TooMany hr (by rfl) (q_cons (q_var (pv 0)) (q_nil))) (q_cons (v_exn xo rfl G.x_NoName hr (by rfl) (q_cons (q_var (pv 0)) (q_nil))) (q_cons (v_exn xo rfl G.x_Twice hr (by rfl) (q_cons (q_var (pv 0)) (q_nil))) (q_cons (v_exn xo rfl G.x_Idle hr (by rfl) (q_cons (q_var (pv 0)) (q_nil))) (q_cons (v_exn xo rfl G.x_BadEquality hr (by rfl) (q_cons (q_var (pv 0)) (q_nil))) (q_cons (v_exn xo rfl G.x_NoLabel hr (by rfl) (q_cons (q_var (pv 0)) (q_nil))) (q_cons (v_exn xo rfl G.x_NoEquality hr (by rfl) (q_cons (q_var (pv 0)) (q_nil))) (q_cons (v_exn xo rfl G.x_Ring hr (by rfl) (q_cons (q_var (pv 0)) (q_nil))) (q_nil))))))))))))
    (q_sone (q_ret (q_bin (fun _ => add_ok) (q_var (pv 1)) (q_lst (q_cons (v_exn xo rfl G.x_NoPlace hr (by rfl) (q_cons (q_var (pv 0)) (q_nil))) (q_cons (v_exn xo rfl G.x_NoState hr (by rfl) (q_cons (q_var (pv 0)) (q_nil))) (q_cons (v_exn xo rfl G.x_NoText hr (by rfl) (q_cons (q_var (pv 0)) (q_nil))) (q_cons (v_exn0 xo G.y_NoWay (by rfl)) (q_cons (v_exn0 xo G.y_Unlike (by rfl)) (q_cons (v_exn0 xo G.y_Nothing (by rfl)) (q_cons (v_exn0 xo G.y_NoCommand (by rfl)) (q_nil))))))))))))
abbrev s__law_flags : Stmt := topS 23
theorem sc__law_flags : FnScope ["_law_e", "_law_found"] ["_law_e"] (defScope s__law_flags) := ⟨rfl, rfl, rfl, by decide +kernel, rfl, by decide +kernel, by decide +kernel⟩
theorem p__law_flags (G : GF P wo g) (DS : Defs P wo g base tab k) {f : Addr} (cdv : Value) (A : Around) (out : List Env) (s : Shared) (H : Hp) (E : XK) (hr : RmG k (A.deeper (envOfC "_law_flags" (defScope s__law_flags) s.heap.objs.size f cdv))) :
    PSs (bx P wo g base ["_law_e", "_law_found"] "_law_flags" (defScope s__law_flags) f cdv A out s H E) (defBody s__law_flags) (tS g (fun c d _ H => E c d H) (b__law_flags (callN tab k))) :=
  have xo := bx_ok (P := P) (wo := wo) (g := g) (base := base) (out := out) (H := H) (E := E) sc__law_flags hr
  have tk : Takes (bx P wo g base ["_law_e", "_law_found"] "_law_flags" (defScope s__law_flags) f cdv A out s H E) (fun c d _ H => E c d H) := takes_of rfl rfl rfl rfl
  have po : PassesOwn (model P wo) (bx P wo g base ["_law_e", "_law_found"] "_law_flags" (defScope s__law_flags) f cdv A out s H E).A (bx P wo g base ["_law_e", "_law_found"] "_law_flags" (defScope s__law_flags) f cdv A out s H E).env (bx P wo g base ["_law_e", "_law_found"] "_law_flags" (defScope s__law_flags) f cdv A out s H E).xe := passes_of rfl
  q_seq (w_set xo rfl (.inl rfl) (q_lst (q_cons (u_isE xo G.er (by decide +kernel) (by rfl) G.z_isinstance (by rfl) (q_var (pv 0))) (q_cons (u_isE xo G.er (by decide +kernel) (by rfl) G.z_isinstance (by rfl) (q_var (pv 0))) (q_cons (u_isE xo G.er (by decide +kernel) (by rfl) G.z_isinstance (by rfl) (q_var (pv 0))) (q_cons (u_isE xo G.er (by decide +kernel) (by rfl) G.z_isinstance (by rfl) (q_var (pv 0))) (q_nil)))))))
    (q_seq (w_set xo rfl (.inl rfl) (q_bin (fun _ => add_ok) (q_var (pv 1)) (q_lst (q_cons (u_isE xo G.er (by decide +kernel) (by rfl) G.z_isinstance (by rfl) (q_var (pv 0))) (q_cons (u_isE xo G.er (by decide +kernel) (by rfl) G.z_isinstance (by rfl) (q_var (pv 0))) (q_cons (u_isE xo G.er (by decide +kernel) (by rfl) G.z_isinstance (by rfl) (q_var (pv 0))) (q_nil)))))))
    (q_seq (w_set xo rfl (.inl rfl) (q_bin (fun _ => add_ok) (q_var (pv 1)) (q_lst (q_cons (u_isE xo G.er (by decide +kernel) (by rfl) G.z_isinstance (by rfl) (q_var (pv 0))) (q_cons (u_isE xo G.er (by decide +kernel) (by rfl) G.z_isinstance (by rfl) (q_var (pv 0))) (q_cons (u_isE xo G.er (by decide +kernel) (by rfl) G.z_isinstance (by rfl) (q_var (pv 0))) (q_nil)))))))
    (q_seq (w_set xo rfl (.inl rfl) (q_bin (fun _ => add_ok) (q_var (pv 1)) (q_lst (q_cons (u_isE xo G.er (by decide +kernel) (by rfl) G.z_isinstance (by rfl) (q_var (pv 0))) (q_cons (u_isE xo G.er (by decide +kernel) (by rfl) G.z_isinstance (by rfl) (q_var (pv 0))) (q_nil))))))
    (q_sone (q_ret (q_bin (fun _ => add_ok) (q_var (pv 1)) (q_lst (q_cons (u_isE xo G.er (by decide +kernel) (by rfl) G.z_isinstance (by rfl) (q_var (pv 0))) (q_cons (u_isE xo G.er (by decide +kernel) (by rfl) G.z_isinstance (by rfl) (q_var (pv 0))) (q_cons (u_isE xo G.er (by decide +kernel) (by rfl) G.z_isinstance (by rfl) (q_var (pv 0))) (q_cons (u_isE xo G.er (by decide +kernel) (by rfl) G.z_isinstance (by rfl) (q_var (pv 0))) (q_nil))))))))))))
abbrev s__law_fields : Stmt := topS 24
theorem sc__law_fields : FnScope ["_law_some", "_law_found"] ["_law_some"] (defScope s__law_fields) := ⟨rfl, rfl, rfl, by decide +kernel, rfl, by decide +kernel, by decide +kernel⟩
theorem p__law_fields (G : GF P wo g) (DS : Defs P wo g base tab k) {f : Addr} (cdv : Value) (A : Around) (out : List Env) (s : Shared) (H : Hp) (E : XK) (hr : RmG k (A.deeper (envOfC "_law_fields" (defScope s__law_fields) s.heap.objs.size f cdv))) :
    PSs (bx P wo g base ["_law_some", "_law_found"] "_law_fields" (defScope s__law_fields) f cdv A out s H E) (defBody s__law_fields) (tS g (fun c d _ H => E c d H) (b__law_fields (callN tab k))) :=
  have xo := bx_ok (P := P) (wo := wo) (g := g) (base := base) (out := out) (H := H) (E := E) sc__law_fields hr
  have tk : Takes (bx P wo g base ["_law_some", "_law_found"] "_law_fields" (defScope s__law_fields) f cdv A out s H E) (fun c d _ H => E c d H) := takes_of rfl rfl rfl rfl
  have po : PassesOwn (model P wo) (bx P wo g base ["_law_some", "_law_found"] "_law_fields" (defScope s__law_fields) f cdv A out s H E).A (bx P wo g base ["_law_some", "_law_found"] "_law_fields" (defScope s__law_fields) f cdv A out s H E).env (bx P wo g base ["_law_some", "_law_found"] "_law_fields" (defScope s__law_fields) f cdv A out s H E).xe := passes_of rfl
  q_seq (w_set xo rfl (.inl rfl) (q_lst (q_cons (u_fld xo G.er (q_idx xo (q_var (pv 0)) (q_int))) (q_cons (u_fld xo G.er (q_idx xo (q_var (pv 0)) (q_int))) (q_cons (u_fld xo G.er (q_idx xo (q_var (pv 0)) (q_int))) (q_cons (u_fld xo G.er (q_idx xo (q_var (pv 0)) (q_int))) (q_cons (u_fld xo G.er (q_idx xo (q_var (pv 0)) (q_int))) (q_cons (u_fld xo G.er (q_idx xo (q_var (pv 0)) (q_int))) (q_cons (u_fld xo G.er (q_idx xo (q_var (pv 0)) (q_int))) (q_nil))))))))))
    (q_sone (q_ret (q_bin (fun _ => add_ok) (q_var (pv 1)) (q_lst (q_cons (u_fld xo G.er (q_idx xo (q_var (pv 0)) (q_int))) (q_cons (u_fld xo G.er (q_idx xo (q_var (pv 0)) (q_int))) (q_cons (u_fld xo G.er (q_idx xo (q_var (pv 0)) (q_int))) (q_cons (u_fld xo G.er (q_idx xo (q_var (pv 0)) (q_int))) (q_cons (u_fld xo G.er (q_idx xo (q_var (pv 0)) (q_int))) (q_nil))))))))))
abbrev s_law : Stmt := topS 25
theorem sc_law : FnScope ["_law_script", "_law_bag_here", "_law_turn", "_law_some", "_law_x", "_law_found", "_law_at", "_law_k"] ["_law_script"] (defScope s_law) := ⟨rfl, rfl, rfl, by decide +kernel, rfl, by decide +kernel, by decide +kernel⟩
theorem p_law (G : GF P wo g) (DS : Defs P wo g base tab k) {f : Addr} (cdv : Value) (A : Around) (out : List Env) (s : Shared) (H : Hp) (E : XK) (hr : RmG k (A.deeper (envOfC "law" (defScope s_law) s.heap.objs.size f cdv))) :
    PSs (bx P wo g base ["_law_script", "_law_bag_here", "_law_turn", "_law_some", "_law_x", "_law_found", "_law_at", "_law_k"] "law" (defScope s_law) f cdv A out s H E) (defBody s_law) (tS g (fun c d _ H => E c d H) (b_law (callN tab k))) :=
  have xo := bx_ok (P := P) (wo := wo) (g := g) (base := base) (out := out) (H := H) (E := E) sc_law hr
  have tk : Takes (bx P wo g base ["_law_script", "_law_bag_here", "_law_turn", "_law_some", "_law_x", "_law_found", "_law_at", "_law_k"] "law" (defScope s_law) f cdv A out s H E) (fun c d _ H => E c d H) := takes_of rfl rfl rfl rfl
  have po : PassesOwn (model P wo) (bx P wo g base ["_law_script", "_law_bag_here", "_law_turn", "_law_some", "_law_x", "_law_found", "_law_at", "_law_k"] "law" (defScope s_law) f cdv A out s H E).A (bx P wo g base ["_law_script", "_law_bag_here", "_law_turn", "_law_some", "_law_x", "_law_found", "_law_at", "_law_k"] "law" (defScope s_law) f cdv A out s H E).env (bx P wo g base ["_law_script", "_law_bag_here", "_law_turn", "_law_some", "_law_x", "_law_found", "_law_at", "_law_k"] "law" (defScope s_law) f cdv A out s H E).xe := passes_of rfl
  q_seq (w_set xo rfl (.inl rfl) (q_call xo rfl rfl rfl DS t__law_bag hr tk (by rfl) (q_cons (q_var (pv 0)) (q_nil))))
    (q_seq (w_for xo po (w_rng1 xo (by rfl) G.z_range (q_cons (q_int) (q_nil))) (q_gn (pg_name (i := 2) xo.nd rfl (.inl rfl))) (q_seq (w_set xo rfl (.inl rfl) (q_lst (q_cons (q_non) (q_cons (q_bl) (q_cons (q_int) (q_cons (q_bin (fun _ => pow_ok) (q_int) (q_int)) (q_cons (q_str) (q_cons (q_tup (q_nil)) (q_cons (q_dct0) (q_cons (q_tup (q_cons (q_str) (q_cons (q_str) (q_nil)))) (q_cons (q_neg (q_int)) (q_nil))))))))))))
    (q_seq (w_set xo rfl (.inl rfl) (q_ife (q_tcmp (fun _ => (eq_ok xo)) (q_call xo rfl rfl rfl DS t__law_take hr tk (by rfl) (q_cons (q_var (pv 1)) (q_cons (q_int) (q_nil)))) (q_int)) (q_idx xo (q_var (pv 3)) (q_call xo rfl rfl rfl DS t__law_take hr tk (by rfl) (q_cons (q_var (pv 1)) (q_cons (q_int) (q_nil))))) (q_nlst (q_cons (q_call xo rfl rfl rfl DS t__law_take hr tk (by rfl) (q_cons (q_var (pv 1)) (q_cons (q_int) (q_nil)))) (q_nil)))))
    (q_seq (w_set xo rfl (.inl rfl) (q_call xo rfl rfl rfl DS t__law_errors hr tk (by rfl) (q_cons (q_var (pv 4)) (q_nil))))
    (q_seq (w_for xo po (w_rng1 xo (by rfl) G.z_range (q_cons (q_int) (q_nil))) (q_gn (pg_name (i := 6) xo.nd rfl (.inr rfl))) (q_seq (q_if (q_tcmp (fun _ => (ne_ok xo)) (q_call xo rfl rfl rfl DS t__law_flags hr tk (by rfl) (q_cons (q_idx xo (q_var (pv 5)) (q_var (pv 6))) (q_nil))) (w_lc (fun _ => hands_frz) (own := [("_law_k", 7)]) xo (blkOk_by (N := ["_law_script", "_law_bag_here", "_law_turn", "_law_some", "_law_x", "_law_found", "_law_at", "_law_k"]) (sc := defScope s_law) (by decide +kernel)) (w_rng1 xo (by rfl) G.z_range (q_cons (q_int) (q_nil))) (fun _ _ _ _ _ => q_gn (pg_name (i := 7) (XO.blk (xo)).nd rfl (.inl rfl))) (fun _ _ _ _ _ => q_pts0) (fun _ _ _ _ _ => q_cmp (fun _ => (eq_ok (XO.blk (xo)))) (q_var (pv 7)) (q_var (pv 6))))) (q_sone (q_ret (q_bl))) (q_snil))
    (q_sone (q_if (PW.pt (q_tor (q_tnot (q_tv (u_isE xo G.er (by decide +kernel) (by rfl) G.z_isinstance (by rfl) (q_idx xo (q_var (pv 5)) (q_var (pv 6)))))) (pw_or1 (q_tnot (q_tv (u_isV xo G.er (by rfl) G.z_isinstance (by rfl) G.z_ValueError (q_idx xo (q_var (pv 5)) (q_var (pv 6))))))))) (q_sone (q_ret (q_bl))) (q_snil)))))
    (q_seq (q_if (q_tv (w_bi xo .isi G.nb (by rfl) rfl (q_cons (q_var (pv 4)) (q_cons (w_ty xo (by rfl) G.z_list) (q_nil))))) (q_sone (w_expr (q_m (fun a b => pe_bm PySem.F.plainAttrs_list PySem.F.slot_list_append PySem.F.type_list_append mt_append a b) (q_var (pv 4)) (q_cons (q_str) (q_nil)) (fun _ _ _ _ _ _ _ _ _ hr rv rvs q => app_r hr rv rvs q)))) (q_snil))
    (q_sone (q_if (PW.pt (q_tor (q_tnot (q_tv (q_call xo rfl rfl rfl DS t__law_alike hr tk (by rfl) (q_cons (q_call xo rfl rfl rfl DS t__law_fields hr tk (by rfl) (q_cons (q_var (pv 5)) (q_nil))) (q_cons (q_bin (fun _ => mul_ok) (q_lst (q_cons (q_var (pv 4)) (q_nil))) (q_int)) (q_nil)))))) (pw_or1 (q_tcmp (fun _ => (ne_ok xo)) (q_call xo rfl rfl rfl DS t__law_flags hr tk (by rfl) (q_cons (v_exn0 xo G.y_WayError (by rfl)) (q_nil))) (q_bin (fun _ => mul_ok) (q_lst (q_cons (q_bl) (q_nil))) (q_int)))))) (q_sone (q_ret (q_bl))) (q_snil)))))))))
    (q_sone (q_ret (q_bl))))
end
end K10
namespace K10
open PySem PySem.Spec PyProof.Rows L2 Bx
section
variable {P : Program} {wo : World} {g : Gx} {base : Heap}
theorem r__law_bag (G : GF P wo g) {f : Addr} {fdat : FuncData} (F : Fun g.K "_law_bag" "_law_bag" s__law_bag f fdat) (hm : g.mg "_law_bag" = some (.ref f)) : Row P wo g base tab "_law_bag" fd__law_bag :=
  ⟨f, fdat, ["_law_script"], hm, F.kp, F.binds (ps := ["_law_script"]) (fun _ _ _ _ _ _ us hl => match us, hl with | [_], _ => rfl), rfl, fun k DS => fnG_of F sc__law_bag rfl rfl (fun cdv A out s H E hr => p__law_bag G DS cdv A out s H E hr) t__law_bag⟩
theorem r__law_take (G : GF P wo g) {f : Addr} {fdat : FuncData} (F : Fun g.K "_law_take" "_law_take" s__law_take f fdat) (hm : g.mg "_law_take" = some (.ref f)) : Row P wo g base tab "_law_take" fd__law_take :=
  ⟨f, fdat, ["_law_bag_here", "_law_many"], hm, F.kp, F.binds (ps := ["_law_bag_here", "_law_many"]) (fun _ _ _ _ _ _ us hl => match us, hl with | [_, _], _ => rfl), rfl, fun k DS => fnG_of F sc__law_take rfl rfl (fun cdv A out s H E hr => p__law_take G DS cdv A out s H E hr) t__law_take⟩
theorem r__law_alike (G : GF P wo g) {f : Addr} {fdat : FuncData} (F : Fun g.K "_law_alike" "_law_alike" s__law_alike f fdat) (hm : g.mg "_law_alike" = some (.ref f)) : Row P wo g base tab "_law_alike" fd__law_alike :=
  ⟨f, fdat, ["_law_found", "_law_due"], hm, F.kp, F.binds (ps := ["_law_found", "_law_due"]) (fun _ _ _ _ _ _ us hl => match us, hl with | [_, _], _ => rfl), rfl, fun k DS => fnG_of F sc__law_alike rfl rfl (fun cdv A out s H E hr => p__law_alike G DS cdv A out s H E hr) t__law_alike⟩
theorem r__law_errors (G : GF P wo g) {f : Addr} {fdat : FuncData} (F : Fun g.K "_law_errors" "_law_errors" s__law_errors f fdat) (hm : g.mg "_law_errors" = some (.ref f)) : Row P wo g base tab "_law_errors" fd__law_errors :=
  ⟨f, fdat, ["_law_x"], hm, F.kp, F.binds (ps := ["_law_x"]) (fun _ _ _ _ _ _ us hl => match us, hl with | [_], _ => rfl), rfl, fun k DS => fnG_of F sc__law_errors rfl rfl (fun cdv A out s H E hr => p__law_errors G DS cdv A out s H E hr) t__law_errors⟩
theorem r__law_flags (G : GF P wo g) {f : Addr} {fdat : FuncData} (F : Fun g.K "_law_flags" "_law_flags" s__law_flags f fdat) (hm : g.mg "_law_flags" = some (.ref f)) : Row P wo g base tab "_law_flags" fd__law_flags :=
  ⟨f, fdat, ["_law_e"], hm, F.kp, F.binds (ps := ["_law_e"]) (fun _ _ _ _ _ _ us hl => match us, hl with | [_], _ => rfl), rfl, fun k DS => fnG_of F sc__law_flags rfl rfl (fun cdv A out s H E hr => p__law_flags G DS cdv A out s H E hr) t__law_flags⟩
theorem r__law_fields (G : GF P wo g) {f : Addr} {fdat : FuncData} (F : Fun g.K "_law_fields" "_law_fields" s__law_fields f fdat) (hm : g.mg "_law_fields" = some (.ref f)) : Row P wo g base tab "_law_fields" fd__law_fields :=
  ⟨f, fdat, ["_law_some"], hm, F.kp, F.binds (ps := ["_law_some"]) (fun _ _ _ _ _ _ us hl => match us, hl with | [_], _ => rfl), rfl, fun k DS => fnG_of F sc__law_fields rfl rfl (fun cdv A out s H E hr => p__law_fields G DS cdv A out s H E hr) t__law_fields⟩
theorem r_law (G : GF P wo g) {f : Addr} {fdat : FuncData} (F : Fun g.K "law" "law" s_law f fdat) (hm : g.mg "law" = some (.ref f)) : Row P wo g base tab "law" fd_law :=
  ⟨f, fdat, ["_law_script"], hm, F.kp, F.binds (ps := ["_law_script"]) (fun _ _ _ _ _ _ us hl => match us, hl with | [_], _ => rfl), rfl, fun k DS => fnG_of F sc_law rfl rfl (fun cdv A out s H E hr => p_law G DS cdv A out s H E hr) t_law⟩
end
structure FF (K : PySem.W.Frag) (x : Str) (st : Stmt) : Prop where
  ex : ∃ (f : Addr) (fdat : FuncData), PySem.W.nsIn K mainGlobals x = some (some (.ref f)) ∧ Fun K x x st f fdat
theorem ff_mk {K : PySem.W.Frag} {x : Str} {st : Stmt} {f : Addr} {oc : Value} {od an : Option Addr} {osl : Array (Option Value)} {kV doc pm cdv ct : Value} (a : PySem.W.nsIn K mainGlobals x = some (some (.ref f))) (l : K.lookup f = some ⟨oc, od, .func (PySem.W.fnOf x x (defArgs st) (defBody st) (defScope st) .none kV doc pm an cdv ct), osl⟩)
    (c : PySem.W.codeIn K cdv x = true) (k : PySem.W.keepIn K (.ref f) = true) : FF K x st := ⟨f, _, a, fun_mk l c k⟩
theorem row_if {P : Program} {wo : World} {g : Gx} {base : Heap} {n x : Str} {fd0 fd : Fd} {r : Option Fd} (h : Row P wo g base tab n fd0) (hr : r = some fd → Row P wo g base tab x fd) (e : (if x = n then some fd0 else r) = some fd) : Row P wo g base tab x fd := by
  by_cases q : x = n
  · rw [if_pos q] at e; rw [q, ← Option.some.inj e]; exact h
  · rw [if_neg q] at e; exact hr e
theorem rows {P : Program} {wo : World} {g : Gx} {base h : Heap} (G : GF P wo g) (X : g.K.In h) (N : h.Ns mainGlobals g.mg)
    (h__law_bag : FF g.K "_law_bag" s__law_bag)
    (h__law_take : FF g.K "_law_take" s__law_take)
    (h__law_alike : FF g.K "_law_alike" s__law_alike)
    (h__law_errors : FF g.K "_law_errors" s__law_errors)
    (h__law_flags : FF g.K "_law_flags" s__law_flags)
    (h__law_fields : FF g.K "_law_fields" s__law_fields)
    (h_law : FF g.K "law" s_law)
    : ∀ x fd, tab x = some fd → Row P wo g base tab x fd := by
  have q__law_bag : Row P wo g base tab "_law_bag" fd__law_bag := by obtain ⟨f, fdat, a, F⟩ := h__law_bag.ex; exact r__law_bag G F (PySem.W.mg_of X N a)
  have q__law_take : Row P wo g base tab "_law_take" fd__law_take := by obtain ⟨f, fdat, a, F⟩ := h__law_take.ex; exact r__law_take G F (PySem.W.mg_of X N a)
  have q__law_alike : Row P wo g base tab "_law_alike" fd__law_alike := by obtain ⟨f, fdat, a, F⟩ := h__law_alike.ex; exact r__law_alike G F (PySem.W.mg_of X N a)
  have q__law_errors : Row P wo g base tab "_law_errors" fd__law_errors := by obtain ⟨f, fdat, a, F⟩ := h__law_errors.ex; exact r__law_errors G F (PySem.W.mg_of X N a)
  have q__law_flags : Row P wo g base tab "_law_flags" fd__law_flags := by obtain ⟨f, fdat, a, F⟩ := h__law_flags.ex; exact r__law_flags G F (PySem.W.mg_of X N a)
  have q__law_fields : Row P wo g base tab "_law_fields" fd__law_fields := by obtain ⟨f, fdat, a, F⟩ := h__law_fields.ex; exact r__law_fields G F (PySem.W.mg_of X N a)
  have q_law : Row P wo g base tab "law" fd_law := by obtain ⟨f, fdat, a, F⟩ := h_law.ex; exact r_law G F (PySem.W.mg_of X N a)
  intro x fd e
  exact row_if q__law_bag (row_if q__law_take (row_if q__law_alike (row_if q__law_errors (row_if q__law_flags (row_if q__law_fields (row_if q_law (fun (z : (none : Option Fd) = some fd) => by cases z))))))) e
theorem gf_mk {P : Program} {wo : World} {K : PySem.W.Frag} {mg : Str → Option Value} {h : Heap} (X : K.In h) (N : h.Ns mainGlobals mg)
    (z_len : PySem.W.nsIn K mainGlobals "len" = some none)
    (z_list : PySem.W.nsIn K mainGlobals "list" = some none)
    (z_tuple : PySem.W.nsIn K mainGlobals "tuple" = some none)
    (z_sum : PySem.W.nsIn K mainGlobals "sum" = some none)
    (z_max : PySem.W.nsIn K mainGlobals "max" = some none)
    (z_min : PySem.W.nsIn K mainGlobals "min" = some none)
    (z_abs : PySem.W.nsIn K mainGlobals "abs" = some none)
    (z_int : PySem.W.nsIn K mainGlobals "int" = some none)
    (z_sorted : PySem.W.nsIn K mainGlobals "sorted" = some none)
    (z_repr : PySem.W.nsIn K mainGlobals "repr" = some none)
    (z_all : PySem.W.nsIn K mainGlobals "all" = some none)
    (z_any : PySem.W.nsIn K mainGlobals "any" = some none)
    (z_isinstance : PySem.W.nsIn K mainGlobals "isinstance" = some none)
    (z_ValueError : PySem.W.nsIn K mainGlobals "ValueError" = some none)
    (z_range : PySem.W.nsIn K mainGlobals "range" = some none)
    (er : ErN ⟨K, mg⟩ ern)
    (y_WayError : Er0 ⟨K, mg⟩ "WayError")
    (x_Wrong : ErC P ⟨K, mg⟩ "Wrong")
    (x_TooMany : ErC P ⟨K, mg⟩ "TooMany")
    (x_NoName : ErC P ⟨K, mg⟩ "NoName")
    (x_Twice : ErC P ⟨K, mg⟩ "Twice")
    (x_Idle : ErC P ⟨K, mg⟩ "Idle")
    (x_BadEquality : ErC P ⟨K, mg⟩ "BadEquality")
    (x_NoLabel : ErC P ⟨K, mg⟩ "NoLabel")
    (x_NoEquality : ErC P ⟨K, mg⟩ "NoEquality")
    (x_Ring : ErC P ⟨K, mg⟩ "Ring")
    (y_NoWay : Er0 ⟨K, mg⟩ "NoWay")
    (y_Unlike : Er0 ⟨K, mg⟩ "Unlike")
    (x_NoPlace : ErC P ⟨K, mg⟩ "NoPlace")
    (x_NoState : ErC P ⟨K, mg⟩ "NoState")
    (y_Nothing : Er0 ⟨K, mg⟩ "Nothing")
    (x_NoText : ErC P ⟨K, mg⟩ "NoText")
    (y_NoCommand : Er0 ⟨K, mg⟩ "NoCommand")
    : GF P wo ⟨K, mg⟩ := ⟨PySem.W.mg_none_of X N z_len, PySem.W.mg_none_of X N z_list, PySem.W.mg_none_of X N z_tuple, PySem.W.mg_none_of X N z_sum, PySem.W.mg_none_of X N z_max, PySem.W.mg_none_of X N z_min, PySem.W.mg_none_of X N z_abs, PySem.W.mg_none_of X N z_int, PySem.W.mg_none_of X N z_sorted, PySem.W.mg_none_of X N z_repr, PySem.W.mg_none_of X N z_all, PySem.W.mg_none_of X N z_any, PySem.W.mg_none_of X N z_isinstance, PySem.W.mg_none_of X N z_ValueError, PySem.W.mg_none_of X N z_range, er, y_WayError, x_Wrong, x_TooMany, x_NoName, x_Twice, x_Idle, x_BadEquality, x_NoLabel, x_NoEquality, x_Ring, y_NoWay, y_Unlike, x_NoPlace, x_NoState, y_Nothing, x_NoText, y_NoCommand⟩
theorem all_mk {l : PySem.W.OpenLaw} {w : World} {K : PySem.W.Frag} {h : Heap} {mg : Str → Option Value} {fa : Addr} (X : K.In h) (N : h.Ns mainGlobals mg) (hfa : mg "law" = some (.ref fa)) (G : GF l.prog w ⟨K, mg⟩)
    (h__law_bag : FF K "_law_bag" s__law_bag)
    (h__law_take : FF K "_law_take" s__law_take)
    (h__law_alike : FF K "_law_alike" s__law_alike)
    (h__law_errors : FF K "_law_errors" s__law_errors)
    (h__law_flags : FF K "_law_flags" s__law_flags)
    (h__law_fields : FF K "_law_fields" s__law_fields)
    {f : Addr} {od an : Option Addr} {sl : Array (Option Value)} {oc kV dc pm cd ct : Value} (a : PySem.W.nsIn K mainGlobals "law" = some (some (.ref f))) (l1 : K.lookup f = some ⟨oc, od, .func (PySem.W.fnOf "law" "law" (defArgs s_law) (defBody s_law) (defScope s_law) .none kV dc pm an cd ct), sl⟩) (c : PySem.W.codeIn K cd "law" = true) (kk : PySem.W.keepIn K (.ref f) = true)
    : ∃ fd : FuncData, (∀ (s : Shared) (u : Value), BindsTo s fd ⟨[u], []⟩ [("_law_script", u)]) ∧ ∀ base : Heap, K.In base → base.Ns mainGlobals mg → FnG l.prog w ⟨K, mg⟩ base (L2.CX l.prog w) 60 fa fd ["_law_script"] (spN ⟨K, mg⟩ (callN tab 60 "law") 1) := by
  have e := hfa.symm.trans (PySem.W.mg_of X N a)
  cases e
  refine ⟨PySem.W.fnOf "law" "law" (defArgs s_law) (defBody s_law) (defScope s_law) .none kV dc pm an cd ct, fun s v => .of_eq rfl, fun base _ _ => ?_⟩
  have DS := defs_all (rows (P := l.prog) (base := base) G X N h__law_bag h__law_take h__law_alike h__law_errors h__law_flags h__law_fields (ff_mk a l1 c kk)) 59
  exact fnG_of (fun_mk l1 c kk) sc_law rfl rfl (fun cdv A out s H E hr => p_law G DS cdv A out s H E hr) t_law
end K10
namespace K10
open PySem PySem.Spec PyProof.Rows L2 Bx
def cls : List Str := ["Wrong", "TooMany", "NoName", "Twice", "Idle", "BadEquality", "NoLabel", "NoEquality", "Ring", "NoPlace", "NoState", "NoText", "NoWay", "Unlike", "Nothing", "NoCommand"]
section
variable {h : Hh} {ρ : Rho} {x : D} {c : Str} {ds : List D} {j : Nat}
theorem look_in {ns : List Str} {v : Str → Bool} (hc : c ∈ ns) : (ns.map fun x => (x, v x)).lookup c = some (v c) := by
  induction ns with
  | nil => cases hc
  | cons y ns ih =>
    rw [List.map_cons, List.lookup_cons]
    by_cases e : c = y
    · subst e; simp
    · have : (c == y) = false := by simpa using e
      rw [this]
      exact ih ((List.mem_cons.mp hc).resolve_left e)
theorem is_at {f : Fn} {v : Str → Bool} (hf : f ρ h = .ok (.exn c ds) h) (hc : c ∈ ern) : xIsE (ern.map fun x => (x, v x)) f ρ h = .ok (.bl (v c)) h := by
  simp only [xIsE, hf, bind_ok, look_in hc]
theorem exn_at {n : Nat} {fs : Fl} (hf : fs ρ h = .ok ds h) (hn : ds.length = n) : xExn c n fs ρ h = .ok (.exn c ds) h := by
  simp only [xExn, hf, bind_ok, hn, if_true]
theorem add_lst {a b : List D} (hl : a.length + b.length ≤ 1000) : addD (.lst a) (.lst b) h = .ok (.lst (a ++ b)) h := by
  simp only [addD, asL, sz_of hl, if_true]
theorem flags_ok (hc : c ∈ ern) : callN tab (j + 1) "_law_flags" [.exn c ds] h = .ok (.lst (cls.map fun c' => .bl (subT c c'))) h := by
  rw [call_at t__law_flags rfl]
  have e0 : ∀ (c' : Str) (y : Option D), xIsE (ern.map fun x => (x, subT x c')) (xV 0) [some (.exn c ds), y] h = .ok (.bl (subT c c')) h := fun c' y => is_at (ds := ds) (by simp) hc
  have z4 : sz 4 = true := by decide
  have z3 : sz 3 = true := by decide
  have z2 : sz 2 = true := by decide
  show endC h (endB (b__law_flags (callN tab j) [some (.exn c ds), none] h)) = _
  unfold b__law_flags
  rw [seq_nx (ρ1 := [some (.exn c ds), some (.lst [.bl (subT c "Wrong"), .bl (subT c "TooMany"), .bl (subT c "NoName"), .bl (subT c "Twice")])]) (h1 := h) (by simp [e0, z4])]
  rw [seq_nx (ρ1 := [some (.exn c ds), some (.lst [.bl (subT c "Wrong"), .bl (subT c "TooMany"), .bl (subT c "NoName"), .bl (subT c "Twice"), .bl (subT c "Idle"), .bl (subT c "BadEquality"), .bl (subT c "NoLabel")])]) (h1 := h) (by simp [e0, z3, add_lst])]
  rw [seq_nx (ρ1 := [some (.exn c ds), some (.lst [.bl (subT c "Wrong"), .bl (subT c "TooMany"), .bl (subT c "NoName"), .bl (subT c "Twice"), .bl (subT c "Idle"), .bl (subT c "BadEquality"), .bl (subT c "NoLabel"), .bl (subT c "NoEquality"), .bl (subT c "Ring"), .bl (subT c "NoPlace")])]) (h1 := h) (by simp [e0, z3, add_lst])]
  rw [seq_nx (ρ1 := [some (.exn c ds), some (.lst [.bl (subT c "Wrong"), .bl (subT c "TooMany"), .bl (subT c "NoName"), .bl (subT c "Twice"), .bl (subT c "Idle"), .bl (subT c "BadEquality"), .bl (subT c "NoLabel"), .bl (subT c "NoEquality"), .bl (subT c "Ring"), .bl (subT c "NoPlace"), .bl (subT c "NoState"), .bl (subT c "NoText")])]) (h1 := h) (by simp [e0, z2, add_lst])]
  simp [e0, z4, add_lst, cls]
/-- what `_law_errors` gives -/
def errs (x : D) : List D := ["Wrong", "TooMany", "NoName", "Twice", "Idle", "BadEquality", "NoLabel", "NoEquality", "Ring", "NoPlace", "NoState", "NoText"].map (fun c => .exn c [x]) ++ ["NoWay", "Unlike", "Nothing", "NoCommand"].map (fun c => .exn c [])
theorem errors_ok : callN tab (j + 1) "_law_errors" [x] h = .ok (.lst (errs x)) h := by
  rw [call_at t__law_errors rfl]
  have e1 : ∀ (c' : Str) (y : Option D), xExn c' 1 (xCons (xV 0) xNil) [some x, y] h = .ok (.exn c' [x]) h := fun c' y => exn_at (by simp) rfl
  have e0 : ∀ (c' : Str) (y : Option D), xExn c' 0 xNil [some x, y] h = .ok (.exn c' []) h := fun c' y => exn_at (by simp) rfl
  have z9 : sz 9 = true := by decide
  have z7 : sz 7 = true := by decide
  show endC h (endB (b__law_errors (callN tab j) [some x, none] h)) = _
  unfold b__law_errors
  rw [seq_nx (ρ1 := [some x, some (.lst ((["Wrong", "TooMany", "NoName", "Twice", "Idle", "BadEquality", "NoLabel", "NoEquality", "Ring"] : List Str).map fun c => .exn c [x]))]) (h1 := h) (by simp [e1, z9])]
  simp [e0, e1, z7, add_lst, errs]
theorem fields_ok : callN tab (j + 1) "_law_fields" [.lst (errs x)] h = .ok (.lst (List.replicate 12 x)) h := by
  rw [call_at t__law_fields rfl]
  have fd : ∀ (c n : Str) (i : Int) (y : Option D), idxD (.lst (errs x)) (.int i) h = .ok (.exn c [x]) h → (ern.contains c && decide (fldOf c = n)) = true → xFld ern n (xIdx (xV 0) (xC (.int i))) [some (.lst (errs x)), y] h = .ok x h := fun c n i y ix e2 => by
    simp only [xFld, xIdx_at, xV_at, List.getElem?_cons_zero, bind_ok, xC_at, ix, e2, if_true]
  have z7 : sz 7 = true := by decide
  have z5 : sz 5 = true := by decide
  show endC h (endB (b__law_fields (callN tab j) [some (.lst (errs x)), none] h)) = _
  unfold b__law_fields
  have f0 := fun y => fd "Wrong" "place" 0 y rfl (by decide +kernel)
  have f1 := fun y => fd "TooMany" "most" 1 y rfl (by decide +kernel)
  have f2 := fun y => fd "NoName" "name" 2 y rfl (by decide +kernel)
  have f3 := fun y => fd "Twice" "label" 3 y rfl (by decide +kernel)
  have f4 := fun y => fd "Idle" "label" 4 y rfl (by decide +kernel)
  have f5 := fun y => fd "BadEquality" "index" 5 y rfl (by decide +kernel)
  have f6 := fun y => fd "NoLabel" "label" 6 y rfl (by decide +kernel)
  have f7 := fun y => fd "NoEquality" "index" 7 y rfl (by decide +kernel)
  have f8 := fun y => fd "Ring" "row" 8 y rfl (by decide +kernel)
  have f9 := fun y => fd "NoPlace" "index" 9 y rfl (by decide +kernel)
  have f10 := fun y => fd "NoState" "state" 10 y rfl (by decide +kernel)
  have f11 := fun y => fd "NoText" "line" 11 y rfl (by decide +kernel)
  rw [seq_nx (ρ1 := [some (.lst (errs x)), some (.lst (List.replicate 7 x))]) (h1 := h) (by simp [-xIdx_at, f0, f1, f2, f3, f4, f5, f6, z7])]
  simp [-xIdx_at, f7, f8, f9, f10, f11, z5, add_lst]
end
end K10
namespace K10
open PySem PySem.Spec PyProof.Rows L2 Bx
theorem tk : tab "_law_take" = some ⟨2, 7, bTake⟩ := t__law_take
theorem tb : tab "_law_bag" = some ⟨1, 2, bBag⟩ := t__law_bag
theorem tal : tab "_law_alike" = some ⟨2, 2, bAlike⟩ := t__law_alike
def menu : List D := [.non, .bl true, .int 0, .int (10 ^ 39), .str "a", .tup [], .dct [], .tup [.str "a", .str "b"], .int (-1)]
def okP (px : PyData) : Bool := (PyData.list (List.replicate 12 px)).showable && decide ((PyData.list (List.replicate 12 px)).shown.length ≤ 1000) && decide ((PyData.list (List.replicate 12 px)).depth ≤ 150) && sameP (.list (List.replicate 12 px)) (.list (List.replicate 12 px))
theorem okP_menu : ([.none, .bool true, .int 0, .int (10 ^ 39), .str "a", .tuple [], .dict [], .tuple [.str "a", .str "b"], .int (-1)] : List PyData).all okP = true := by decide +kernel
theorem okP_nums : ∀ v : Fin 9, okP (.list [.int ((v : Nat) : Int), .str "more"]) = true := by decide +kernel
section
variable {h : Hh} {ρ : Rho} {x : D} {j : Nat}
theorem toPs_rep {f : Nat → Option PyData} {px : PyData} (e : toP f x = some px) : ∀ n : Nat, toPs f (List.replicate n x) = some (List.replicate n px)
  | 0 => rfl
  | n + 1 => by rw [List.replicate_succ, List.replicate_succ]; simp only [toPs, e, toPs_rep e n]
theorem alike_rep {px : PyData} (e : toD h x = some px) (ok : okP px = true) : callN tab (j + 1) "_law_alike" [.lst (List.replicate 12 x), .lst (List.replicate 12 x)] h = .ok (.bl true) h := by
  rw [call_at tal rfl]
  have et : toD h (.lst (List.replicate 12 x)) = some (.list (List.replicate 12 px)) := by
    simp only [toD, toP] at e ⊢
    rw [toPs_rep e]
    rfl
  simp only [okP, Bool.and_eq_true, decide_eq_true_eq] at ok
  obtain ⟨⟨⟨h1, h2⟩, h3⟩, h4⟩ := ok
  have df : difL (.lst (List.replicate 12 x)) (.lst (List.replicate 12 x)) h = false := by simp [difL, asL]
  have e1 : eqD (.lst (List.replicate 12 x)) (.lst (List.replicate 12 x)) h = .ok (.bl true) h := by
    simp only [eqD, df, Bool.false_eq_true, if_false, et]
    by_cases d : dOk (.list (List.replicate 12 px)) = true
    · have pl : (PyData.list (List.replicate 12 px)).plain = true := by simp only [dOk, Bool.and_eq_true] at d; exact d.1
      simp only [d, Bool.and_self, if_true, SeqAt.eqv_refl_plain _ pl]
    · simp only [d, Bool.false_and, Bool.false_eq_true, if_false, isLs, h4, h3, decide_true, Bool.and_self, if_true]
  have e2 : biS .repr [.lst (List.replicate 12 x)] h = .ok (.str (PyData.list (List.replicate 12 px)).shown) h := by
    simp only [biS, bRepr, et, h1, sz_of h2, h3, decide_true, Bool.and_self, if_true]
  generalize List.replicate 12 x = ds at e1 e2 ⊢
  simp [bAlike, startR, e1, e2]
theorem flag_rows : ∀ i : Fin 16, (cls.map fun c' => subT (cls.getD i "") c') = (List.range 16).map fun (k : Nat) => decide (0 + (k : Int) = 0 + ((i : Nat) : Int)) := by decide +kernel
theorem cls_in : ∀ i : Fin 16, cls.getD i "" ∈ ern := by decide +kernel
theorem errs_at (i : Fin 16) : ∃ ds, idxD (.lst (errs x)) (.int (0 + ((i : Nat) : Int))) h = .ok (.exn (cls.getD i "") ds) h ∧ cls.getD i "" ∈ ern := by
  match i with
  | ⟨0, _⟩ => exact ⟨[x], rfl, cls_in _⟩
  | ⟨1, _⟩ => exact ⟨[x], rfl, cls_in _⟩
  | ⟨2, _⟩ => exact ⟨[x], rfl, cls_in _⟩
  | ⟨3, _⟩ => exact ⟨[x], rfl, cls_in _⟩
  | ⟨4, _⟩ => exact ⟨[x], rfl, cls_in _⟩
  | ⟨5, _⟩ => exact ⟨[x], rfl, cls_in _⟩
  | ⟨6, _⟩ => exact ⟨[x], rfl, cls_in _⟩
  | ⟨7, _⟩ => exact ⟨[x], rfl, cls_in _⟩
  | ⟨8, _⟩ => exact ⟨[x], rfl, cls_in _⟩
  | ⟨9, _⟩ => exact ⟨[x], rfl, cls_in _⟩
  | ⟨10, _⟩ => exact ⟨[x], rfl, cls_in _⟩
  | ⟨11, _⟩ => exact ⟨[x], rfl, cls_in _⟩
  | ⟨12, _⟩ => exact ⟨[], rfl, cls_in _⟩
  | ⟨13, _⟩ => exact ⟨[], rfl, cls_in _⟩
  | ⟨14, _⟩ => exact ⟨[], rfl, cls_in _⟩
  | ⟨15, _⟩ => exact ⟨[], rfl, cls_in _⟩
  | ⟨n + 16, hn⟩ => exact absurd hn (by omega)
theorem cvs_bls (l : List Bool) : toDs h (l.map D.bl) = some (l.map PyData.bool) := by
  induction l with
  | nil => rfl
  | cons b l ih => simp only [toDs] at ih; simp only [List.map_cons, toDs, toPs, toP, ih]
theorem plain_bls (l : List Bool) : PyData.plainAll (l.map PyData.bool) = true ∧ PyData.depthAll (l.map PyData.bool) ≤ 0 := by
  induction l with
  | nil => exact ⟨rfl, Nat.le_refl _⟩
  | cons b l ih => exact ⟨by simp only [List.map_cons, PyData.plainAll, PyData.plain, ih.1, Bool.and_self], by simp only [List.map_cons, PyData.depthAll, PyData.depth]; omega⟩
theorem ne_bls (l : List Bool) : neD (.lst (l.map .bl)) (.lst (l.map .bl)) h = .ok (.bl false) h := by
  have df : difL (.lst (l.map .bl)) (.lst (l.map .bl)) h = false := by simp [difL, asL]
  have et : toD h (.lst (l.map .bl)) = some (.list (l.map .bool)) := by
    have := cvs_bls (h := h) l
    simp only [toDs] at this
    simp only [toD, toP, this, Option.map_some]
  have pl : (PyData.list (l.map PyData.bool)).plain = true := by rw [PyData.plain]; exact (plain_bls l).1
  have dk : dOk (.list (l.map .bool)) = true := by
    have z := (plain_bls l).2
    rw [dOk, pl, Bool.true_and, decide_eq_true_eq, PyData.depth]
    omega
  simp only [neD, df, Bool.false_eq_true, if_false, et, dk, Bool.and_self, if_true, SeqAt.eqv_refl_plain _ pl, Bool.not_true]
variable {ns : List Int} {x2 x3 x4 x5 x6 x7 : Option D} {o : O} {r : Hh}
theorem menu_set : zSet 3 (xLst (xCons (xC .non) (xCons (xC (.bl true)) (xCons (xC (.int 0)) (xCons (xBin powD (xC (.int 10)) (xC (.int 39))) (xCons (xC (.str "a")) (xCons (xTup (xNil)) (xCons (xDct0) (xCons (xTup (xCons (xC (.str "a")) (xCons (xC (.str "b")) (xNil)))) (xCons (xUn negD (xC (.int 1))) (xNil))))))))))) [some (.scr ns), some (.ref 0), x2, x3, x4, x5, x6, x7] h = .nx [some (.scr ns), some (.ref 0), x2, some (.lst menu), x4, x5, x6, x7] h := by
  have z9 : sz 9 = true := by decide
  have z0 : sz 0 = true := by decide
  have z2 : sz 2 = true := by decide
  have pw : powD (.int 10) (.int 39) h = .ok (.int (10 ^ 39)) h := rfl
  have ng : negD (.int 1) h = .ok (.int (-1)) h := rfl
  simp [z9, z0, z2, pw, ng, menu]
theorem pick (B : Bg o) : ∃ (x : D) (o' : O) (r' : Hh), (xIfe (yV (xBin eqD (xCall 2 (callN tab 59 "_law_take") (xCons (xV 1) (xCons (xC (.int 3)) (xNil)))) (xC (.int 0)))) (xIdx (xV 3) (xCall 2 (callN tab 59 "_law_take") (xCons (xV 1) (xCons (xC (.int 9)) (xNil))))) (xNlst (xCons (xCall 2 (callN tab 59 "_law_take") (xCons (xV 1) (xCons (xC (.int 9)) (xNil)))) (xNil)))) [some (.scr ns), some (.ref 0), x2, some (.lst menu), x4, x5, x6, x7] (o :: r) = .ok x (o' :: r') ∧ Bg o' ∧
    (x ∈ menu ∨ ∃ v : Fin 9, x = .ref (r.length + 1) ∧ r' = r ++ [.lst [.int ((v : Nat) : Int)]]) := by
  obtain ⟨t, o1, e1, B1, t0, t1⟩ := take_call tk (k := 58) (r := r) B (m := 3) (by decide) (by decide)
  obtain ⟨v, o2, e2, B2, v0, v1⟩ := take_call tk (k := 58) (r := r) B1 (m := 9) (by decide) (by decide)
  obtain ⟨v, rfl⟩ := Int.eq_ofNat_of_zero_le v0
  by_cases c : t = 0
  · obtain ⟨d, hd, ed⟩ := idx_lst (h := o2 :: r) (xs := menu) (i := (v : Int)) (by omega) (by simp [menu]; omega)
    exact ⟨d, o2, r, by simp [e1, e2, c, ed], B2, .inl hd⟩
  · have z1 : sz 1 = true := by decide
    exact ⟨.ref (r.length + 1), o2, r ++ [.lst [.int (v : Int)]], by simp [e1, e2, c, z1], B2, .inr ⟨⟨v, by omega⟩, rfl, rfl⟩⟩
theorem loop16 : ∃ y6, zFor (iR1 (xCons (xC (.int 16)) (xNil))) (gN 6) (zSeq (zIf (yV (xBin neD (xCall 1 (callN tab 59 "_law_flags") (xCons (xIdx (xV 5) (xV 6)) (xNil))) (xLcG lcF (iR1 (xCons (xC (.int 16)) (xNil))) [7] (gN 7) (yYes) (xBin eqD (xV 7) (xV 6))))) (zRet (xC (.bl false))) (zNext))
    (zIf (yOr (yNot (yV (xIsE (ern.map fun x => (x, subT x "WayError")) (xIdx (xV 5) (xV 6))))) (yNot (yV (xIsE (ern.map fun x => (x, true)) (xIdx (xV 5) (xV 6)))))) (zRet (xC (.bl false))) (zNext))) [some (.scr ns), some (.ref 0), x2, x3, x4, some (.lst (errs x)), x6, x7] h = .nx [some (.scr ns), some (.ref 0), x2, x3, x4, some (.lst (errs x)), y6, x7] h := by
  obtain ⟨ρ', h', e, y6, rfl, eh⟩ := loop_inv (ds := (List.range 16).map fun (k : Nat) => .int (0 + (k : Int))) (t := gN 6) (b := (zSeq (zIf (yV (xBin neD (xCall 1 (callN tab 59 "_law_flags") (xCons (xIdx (xV 5) (xV 6)) (xNil))) (xLcG lcF (iR1 (xCons (xC (.int 16)) (xNil))) [7] (gN 7) (yYes) (xBin eqD (xV 7) (xV 6))))) (zRet (xC (.bl false))) (zNext))
    (zIf (yOr (yNot (yV (xIsE (ern.map fun x => (x, subT x "WayError")) (xIdx (xV 5) (xV 6))))) (yNot (yV (xIsE (ern.map fun x => (x, true)) (xIdx (xV 5) (xV 6)))))) (zRet (xC (.bl false))) (zNext)))) (ρ := [some (.scr ns), some (.ref 0), x2, x3, x4, some (.lst (errs x)), x6, x7]) (h := h)
    (I := fun ρ h' => ∃ y6, ρ = [some (.scr ns), some (.ref 0), x2, x3, x4, some (.lst (errs x)), y6, x7] ∧ h' = h) (fun d hd ρ h' ⟨y6, e, eh⟩ => by
      subst e; subst eh
      obtain ⟨i, hi, rfl⟩ := List.mem_map.mp hd
      have hi' : i < 16 := by simpa using hi
      obtain ⟨ds, ei, hc⟩ := errs_at (x := x) (h := h') ⟨i, hi'⟩
      have fl := flags_ok (j := 58) (h := h') (ds := ds) hc
      have rows := flag_rows ⟨i, hi'⟩
      have lc : xLcG lcF (iR1 (xCons (xC (.int 16)) (xNil))) [7] (gN 7) (yYes) (xBin eqD (xV 7) (xV 6)) [some (.scr ns), some (.ref 0), x2, x3, x4, some (.lst (errs x)), some (.int (0 + (i : Int))), x7] h' = .ok (.lst (((List.range 16).map fun (k : Nat) => decide (0 + (k : Int) = 0 + (i : Int))).map .bl)) h' := by
        rw [List.map_map]
        exact lc_rng (m := 16) (h1 := h') (by simp) (by omega) (by
          have := lc_map (i := 7) (ρ := [some (.scr ns), some (.ref 0), x2, x3, x4, some (.lst (errs x)), some (.int (0 + (i : Int))), none]) (h := h') (xs := List.range 16) (g := fun (k : Nat) => D.int (k : Int)) (f := fun (k : Nat) => D.bl (decide (0 + (k : Int) = 0 + (i : Int)))) (e := xBin eqD (xV 7) (xV 6)) (fun k _ => by simp)
          exact this)
      have ne : neD (.lst (cls.map fun c' => .bl (subT (cls.getD i "") c'))) (.lst (((List.range 16).map fun (k : Nat) => decide (0 + (k : Int) = 0 + (i : Int))).map .bl)) h' = .ok (.bl false) h' := by
        rw [show (cls.map fun c' => D.bl (subT (cls.getD i "") c')) = (cls.map fun c' => subT (cls.getD i "") c').map D.bl by rw [List.map_map]; rfl, rows]
        exact ne_bls _
      have w1 : subT (cls.getD i "") "WayError" = true := by simp [subT]
      have i5 : xIdx (xV 5) (xV 6) [some (.scr ns), some (.ref 0), x2, x3, x4, some (.lst (errs x)), some (.int (0 + (i : Int))), x7] h' = .ok (.exn (cls.getD i "") ds) h' := by
        simp only [xIdx_at, xV_at, List.getElem?_cons_succ, List.getElem?_cons_zero, bind_ok]
        exact ei
      refine ⟨_, [some (.scr ns), some (.ref 0), x2, x3, x4, some (.lst (errs x)), some (.int (0 + (i : Int))), x7], h', rfl, ?_, _, rfl, rfl⟩
      rw [seq_nx (ρ1 := [some (.scr ns), some (.ref 0), x2, x3, x4, some (.lst (errs x)), some (.int (0 + (i : Int))), x7]) (h1 := h') (by
        show zIf _ _ _ [some (.scr ns), some (.ref 0), x2, x3, x4, some (.lst (errs x)), some (.int (0 + (i : Int))), x7] h' = _
        simp only [zIf_at, yV_at, xBin_at, xCall_at, xCons_at, i5, bind_ok, xNil_at, List.length_cons, List.length_nil, Nat.zero_add, if_true, fl, lc, ne, isB_at, of_ok, Bool.false_eq_true, if_false, zNext_at])]
      have a1 := is_at (v := fun x => subT x "WayError") i5 hc
      have a2 := is_at (v := fun _ => true) i5 hc
      simp only [zIf_at, yOr_at, yNot_at, yV_at, a1, a2, bind_ok, isB_at, w1, Bool.not_true, Bool.false_eq_true, if_false, of_ok, zNext_at]) ⟨_, rfl, rfl⟩
  rw [eh] at e
  exact ⟨y6, by rw [zFor_at, show iR1 (xCons (xC (.int 16)) (xNil)) [some (.scr ns), some (.ref 0), x2, x3, x4, some (.lst (errs x)), x6, x7] h = .ok ((List.range 16).map fun (k : Nat) => .int (0 + (k : Int))) h from rfl, of_ok, e]⟩
end
end K10
namespace K10
open PySem PySem.Spec PyProof.Rows L2 Bx
section
variable {h : Hh} {x : D} {ns : List Int} {x2 x3 x4 x5 x6 x7 : Option D} {o : O} {r : Hh}
theorem last_step {px : PyData} (e : toD h x = some px) (ok : okP px = true) : (zIf (yOr (yNot (yV (xCall 2 (callN tab 59 "_law_alike") (xCons (xCall 1 (callN tab 59 "_law_fields") (xCons (xV 5) (xNil))) (xCons (xBin mulD (xLst (xCons (xV 4) (xNil))) (xC (.int 12))) (xNil)))))) (yV (xBin neD (xCall 1 (callN tab 59 "_law_flags") (xCons (xExn "WayError" 0 xNil) (xNil))) (xBin mulD (xLst (xCons (xC (.bl false)) (xNil))) (xC (.int 16)))))) (zRet (xC (.bl false))) (zNext)) [some (.scr ns), some (.ref 0), x2, x3, some x, some (.lst (errs x)), x6, x7] h = .nx [some (.scr ns), some (.ref 0), x2, x3, some x, some (.lst (errs x)), x6, x7] h := by
  have al := alike_rep (j := 58) e ok
  have fi := fields_ok (x := x) (h := h) (j := 58)
  have z1 : sz 1 = true := by decide
  have m1 : mulD (.lst [x]) (.int 12) h = .ok (.lst (List.replicate 12 x)) h := rfl
  have m2 : mulD (.lst [.bl false]) (.int 16) h = .ok (.lst ((List.replicate 16 false).map .bl)) h := rfl
  have fl := flags_ok (c := "WayError") (ds := []) (h := h) (j := 58) (by decide +kernel)
  have e1 : (cls.map fun c' => D.bl (subT "WayError" c')) = (List.replicate 16 false).map D.bl := by
    rw [show (cls.map fun c' => D.bl (subT "WayError" c')) = (cls.map fun c' => subT "WayError" c').map D.bl by rw [List.map_map]; rfl]
    exact congrArg (List.map D.bl) (by decide +kernel)
  rw [e1] at fl
  have ne := ne_bls (h := h) (List.replicate 16 false)
  have ex : xExn "WayError" 0 xNil [some (.scr ns), some (.ref 0), x2, x3, some x, some (.lst (errs x)), x6, x7] h = .ok (.exn "WayError" []) h := exn_at (by simp) rfl
  simp only [zIf_at, yOr_at, yNot_at, yV_at, xCall_at, xCons_at, xV_at, List.getElem?_cons_succ, List.getElem?_cons_zero, bind_ok, xNil_at, List.length_cons, List.length_nil, Nat.zero_add, Nat.reduceAdd, if_true, fi, xBin_at, xLst_at, z1, xC_at, m1, al, isB_at, Bool.not_true, Bool.false_eq_true, if_false, ex, fl, m2, ne, of_ok, zNext_at]
noncomputable def turnE (cl : Str → List D → Hh → Res D) : Fs := (zSeq (zSet 3 (xLst (xCons (xC .non) (xCons (xC (.bl true)) (xCons (xC (.int 0)) (xCons (xBin powD (xC (.int 10)) (xC (.int 39))) (xCons (xC (.str "a")) (xCons (xTup (xNil)) (xCons (xDct0) (xCons (xTup (xCons (xC (.str "a")) (xCons (xC (.str "b")) (xNil)))) (xCons (xUn negD (xC (.int 1))) (xNil))))))))))))
    (zSeq (zSet 4 (xIfe (yV (xBin eqD (xCall 2 (cl "_law_take") (xCons (xV 1) (xCons (xC (.int 3)) (xNil)))) (xC (.int 0)))) (xIdx (xV 3) (xCall 2 (cl "_law_take") (xCons (xV 1) (xCons (xC (.int 9)) (xNil))))) (xNlst (xCons (xCall 2 (cl "_law_take") (xCons (xV 1) (xCons (xC (.int 9)) (xNil)))) (xNil)))))
    (zSeq (zSet 5 (xCall 1 (cl "_law_errors") (xCons (xV 4) (xNil))))
    (zSeq (zFor (iR1 (xCons (xC (.int 16)) (xNil))) (gN 6) (zSeq (zIf (yV (xBin neD (xCall 1 (cl "_law_flags") (xCons (xIdx (xV 5) (xV 6)) (xNil))) (xLcG lcF (iR1 (xCons (xC (.int 16)) (xNil))) [7] (gN 7) (yYes) (xBin eqD (xV 7) (xV 6))))) (zRet (xC (.bl false))) (zNext))
    (zIf (yOr (yNot (yV (xIsE (ern.map fun x => (x, subT x "WayError")) (xIdx (xV 5) (xV 6))))) (yNot (yV (xIsE (ern.map fun x => (x, true)) (xIdx (xV 5) (xV 6)))))) (zRet (xC (.bl false))) (zNext))))
    (zSeq (zIf (yV (xBi .isi (xCons (xV 4) (xCons (xC (.val (.ty "list"))) (xNil))))) (zExpr (xM mApp (xV 4) (xCons (xC (.str "more")) (xNil)))) (zNext))
    (zIf (yOr (yNot (yV (xCall 2 (cl "_law_alike") (xCons (xCall 1 (cl "_law_fields") (xCons (xV 5) (xNil))) (xCons (xBin mulD (xLst (xCons (xV 4) (xNil))) (xC (.int 12))) (xNil)))))) (yV (xBin neD (xCall 1 (cl "_law_flags") (xCons (xExn "WayError" 0 xNil) (xNil))) (xBin mulD (xLst (xCons (xC (.bl false)) (xNil))) (xC (.int 16)))))) (zRet (xC (.bl false))) (zNext)))))))
theorem menu_isi (hx : x ∈ menu) : biS .isi [x, .val (.ty "list")] h = .ok (.bl false) h ∧ ∃ px, toD h x = some px ∧ okP px = true := by
  have ok := List.all_eq_true.mp okP_menu
  simp only [menu, List.mem_cons, List.not_mem_nil, or_false] at hx
  rcases hx with rfl | rfl | rfl | rfl | rfl | rfl | rfl | rfl | rfl
  · exact ⟨by simp, .none, rfl, ok _ (by simp)⟩
  · exact ⟨by simp, .bool true, rfl, ok _ (by simp)⟩
  · exact ⟨by simp, .int 0, rfl, ok _ (by simp)⟩
  · exact ⟨by simp only [isi_int_list], .int (10 ^ 39), rfl, ok _ (by simp)⟩
  · exact ⟨by simp, .str "a", rfl, ok _ (by simp)⟩
  · exact ⟨by simp, .tuple [], rfl, ok _ (by simp)⟩
  · exact ⟨by simp only [biS, bIsi, tyN, show kitB "dict" "list" = some false by decide +kernel], .dict [], rfl, ok _ (by simp)⟩
  · exact ⟨by simp, .tuple [.str "a", .str "b"], rfl, ok _ (by simp)⟩
  · exact ⟨by simp only [isi_int_list], .int (-1), rfl, ok _ (by simp)⟩
theorem law_turn (B : Bg o) : ∃ y2 y3 y4 y5 y6 y7 o' r', turnE (callN tab 59) [some (.scr ns), some (.ref 0), x2, x3, x4, x5, x6, x7] (o :: r) = .nx [some (.scr ns), some (.ref 0), y2, y3, y4, y5, y6, y7] (o' :: r') ∧ Bg o' := by
  unfold turnE
  rw [seq_nx menu_set]
  obtain ⟨x, o1, r1, e1, B1, hx⟩ := pick (ns := ns) (x2 := x2) (x4 := x4) (x5 := x5) (x6 := x6) (x7 := x7) (r := r) B
  rw [seq_nx (ρ1 := [some (.scr ns), some (.ref 0), x2, some (.lst menu), some x, x5, x6, x7]) (h1 := o1 :: r1) (by rw [zSet_at, e1]; rfl)]
  have er := errors_ok (x := x) (h := o1 :: r1) (j := 58)
  rw [seq_nx (ρ1 := [some (.scr ns), some (.ref 0), x2, some (.lst menu), some x, some (.lst (errs x)), x6, x7]) (h1 := o1 :: r1) (by simp [er])]
  obtain ⟨y6, e6⟩ := loop16 (h := o1 :: r1) (x := x) (ns := ns) (x2 := x2) (x3 := some (.lst menu)) (x4 := some x) (x6 := x6) (x7 := x7)
  rw [seq_nx e6]
  rcases hx with hx | ⟨v, rfl, rfl⟩
  · obtain ⟨i1, px, e2, ok⟩ := menu_isi (h := o1 :: r1) hx
    rw [seq_nx (ρ1 := [some (.scr ns), some (.ref 0), x2, some (.lst menu), some x, some (.lst (errs x)), y6, x7]) (h1 := o1 :: r1) (by simp [i1]), last_step e2 ok]
    exact ⟨_, _, _, _, _, _, _, _, rfl, B1⟩
  · have at1 : (o1 :: (r ++ [O.lst [.int ((v : Nat) : Int)]]))[r.length + 1]? = some (.lst [.int ((v : Nat) : Int)]) := by simp
    have i1 : biS .isi [.ref (r.length + 1), .val (.ty "list")] (o1 :: (r ++ [O.lst [.int ((v : Nat) : Int)]])) = .ok (.bl true) (o1 :: (r ++ [O.lst [.int ((v : Nat) : Int)]])) := by
      simp only [biS, bIsi, tyN, at1, show kitB "list" "list" = some true by decide +kernel]
    have st : (o1 :: (r ++ [O.lst [.int ((v : Nat) : Int)]])).set (r.length + 1) (.lst [.int ((v : Nat) : Int), .str "more"]) = o1 :: (r ++ [O.lst [.int ((v : Nat) : Int), .str "more"]]) := by simp
    have z : (1 : Nat) < sizeLine := by decide
    rw [seq_nx (ρ1 := [some (.scr ns), some (.ref 0), x2, some (.lst menu), some (.ref (r.length + 1)), some (.lst (errs (.ref (r.length + 1)))), y6, x7]) (h1 := o1 :: (r ++ [O.lst [.int ((v : Nat) : Int), .str "more"]])) (by
      simp only [zIf_at, yV_at, xBi_at, xCons_at, xV_at, List.getElem?_cons_succ, List.getElem?_cons_zero, bind_ok, xC_at, xNil_at, i1, isB_at, of_ok, if_true, zExpr_at, xM, asL, at1, mApp, List.length_cons, List.length_nil, Nat.zero_add, z, decide_true, List.cons_append, List.nil_append, st])]
    have e2 : toD (o1 :: (r ++ [O.lst [.int ((v : Nat) : Int), .str "more"]])) (.ref (r.length + 1)) = some (.list [.int ((v : Nat) : Int), .str "more"]) := by
      have at2 : (o1 :: (r ++ [O.lst [.int ((v : Nat) : Int), .str "more"]]))[r.length + 1]? = some (.lst [.int ((v : Nat) : Int), .str "more"]) := by simp
      simp only [toD, toP, refP, at2, toPs, Option.map_some]
    rw [last_step e2 (okP_nums v)]
    exact ⟨_, _, _, _, _, _, _, _, rfl, B1⟩
end
theorem law_true (ns : List Int) (hl : ns.length ≤ 63) : ∃ hE, callN tab 60 "law" [.scr ns] [] = .ok (.bl true) hE := by
  obtain ⟨o, e1, B⟩ := bag_call tb (j := 58) (ns := ns) (by omega)
  rw [call_at t_law rfl]
  show ∃ hE, endC [] (endB (b_law (callN tab 59) [some (.scr ns), none, none, none, none, none, none, none] [])) = _
  unfold b_law
  have e1' : callN tab 59 "_law_bag" [.scr ns] [] = .ok (.ref 0) [o] := e1
  rw [seq_nx (ρ1 := [some (.scr ns), some (.ref 0), none, none, none, none, none, none]) (h1 := [o]) (by simp [e1'])]
  obtain ⟨ρ', h', e, _⟩ := loop_inv (ds := (List.range 4).map fun (k : Nat) => .int (0 + (k : Int))) (t := gN 2) (b := turnE (callN tab 59)) (ρ := [some (.scr ns), some (.ref 0), none, none, none, none, none, none]) (h := [o])
    (I := fun ρ h => ∃ x2 x3 x4 x5 x6 x7 o r, ρ = [some (.scr ns), some (.ref 0), x2, x3, x4, x5, x6, x7] ∧ h = o :: r ∧ Bg o) (fun d hd ρ h ⟨x2, x3, x4, x5, x6, x7, o, r, e, eh, B⟩ => by
      subst e; subst eh
      obtain ⟨y2, y3, y4, y5, y6, y7, o', r', e, B'⟩ := law_turn (ns := ns) (x2 := some d) (x3 := x3) (x4 := x4) (x5 := x5) (x6 := x6) (x7 := x7) B (r := r)
      exact ⟨_, _, _, rfl, e, _, _, _, _, _, _, _, _, rfl, rfl, B'⟩) ⟨_, _, _, _, _, _, _, _, rfl, rfl, B⟩
  refine ⟨[], ?_⟩
  have lp : zFor (iR1 (xCons (xC (.int 4)) (xNil))) (gN 2) (turnE (callN tab 59)) [some (.scr ns), some (.ref 0), none, none, none, none, none, none] [o] = .nx ρ' h' := by
    rw [zFor_at, show iR1 (xCons (xC (.int 4)) (xNil)) [some (.scr ns), some (.ref 0), none, none, none, none, none, none] [o] = .ok ((List.range 4).map fun (k : Nat) => .int (0 + (k : Int))) [o] from rfl, of_ok, e]
  unfold turnE at lp
  rw [seq_nx lp]
  simp only [zRet_at, xC_at, of_ok, endB_rt]
  exact endC_cut (h := []) (x := h') (.bl true)
end K10
open PySem PySem.W PyProof.Rows
set_option maxHeartbeats 0 in
theorem PySem.Challenge.cw_unaskedways_k10_errors_apart_holds : PySem.Challenge.rw_unaskedways_k10_errors_apart.Holds := by
  w_on; o_law; k_head; (case hw => w_witness2)
  k_fill
  refine Bx.law_walk (l := PySem.Challenge.rw_unaskedways_k10_errors_apart) (n := 63) (k := 60) (x := "_law_script") (y := "law") (T := K10.tab) rfl (by decide) rfl ⟨⟨rfl, by decide, by decide⟩, rfl⟩ (fun w h Y => PySem.W.kIn_of Y) ?F K10.law_true
  case F =>
    intro w mg fa h KX N hmg
    refine' K10.all_mk KX N hmg ?G ?h__law_bag ?h__law_take ?h__law_alike ?h__law_errors ?h__law_flags ?h__law_fields ?a ?l ?c ?k
    case G =>
      refine' K10.gf_mk KX N ?z_len ?z_list ?z_tuple ?z_sum ?z_max ?z_min ?z_abs ?z_int ?z_sorted ?z_repr ?z_all ?z_any ?z_isinstance ?z_ValueError ?z_range ?er ?y_WayError ?x_Wrong ?x_TooMany ?x_NoName ?x_Twice ?x_Idle ?x_BadEquality ?x_NoLabel ?x_NoEquality ?x_Ring ?y_NoWay ?y_Unlike ?x_NoPlace ?x_NoState ?y_Nothing ?x_NoText ?y_NoCommand
      case z_len => k_is
      case z_list => k_is
      case z_tuple => k_is
      case z_sum => k_is
      case z_max => k_is
      case z_min => k_is
      case z_abs => k_is
      case z_int => k_is
      case z_sorted => k_is
      case z_repr => k_is
      case z_all => k_is
      case z_any => k_is
      case z_isinstance => k_is
      case z_ValueError => k_is
      case z_range => k_is
      case er =>
        refine' Bx.erN_mk (Bx.erN_cons KX N (c := "WayError") ?e_WayError (Bx.erN_cons KX N (c := "Wrong") ?e_Wrong (Bx.erN_cons KX N (c := "TooMany") ?e_TooMany (Bx.erN_cons KX N (c := "NoName") ?e_NoName (Bx.erN_cons KX N (c := "Twice") ?e_Twice (Bx.erN_cons KX N (c := "Idle") ?e_Idle (Bx.erN_cons KX N (c := "BadEquality") ?e_BadEquality (Bx.erN_cons KX N (c := "NoLabel") ?e_NoLabel (Bx.erN_cons KX N (c := "NoEquality") ?e_NoEquality (Bx.erN_cons KX N (c := "Ring") ?e_Ring (Bx.erN_cons KX N (c := "NoWay") ?e_NoWay (Bx.erN_cons KX N (c := "Unlike") ?e_Unlike (Bx.erN_cons KX N (c := "NoPlace") ?e_NoPlace (Bx.erN_cons KX N (c := "NoState") ?e_NoState (Bx.erN_cons KX N (c := "Nothing") ?e_Nothing (Bx.erN_cons KX N (c := "NoText") ?e_NoText (Bx.erN_cons KX N (c := "NoCommand") ?e_NoCommand (Bx.erN_nil)))))))))))))))))) rfl ?eb
        case e_WayError => k_is
        case e_Wrong => k_is
        case e_TooMany => k_is
        case e_NoName => k_is
        case e_Twice => k_is
        case e_Idle => k_is
        case e_BadEquality => k_is
        case e_NoLabel => k_is
        case e_NoEquality => k_is
        case e_Ring => k_is
        case e_NoWay => k_is
        case e_Unlike => k_is
        case e_NoPlace => k_is
        case e_NoState => k_is
        case e_Nothing => k_is
        case e_NoText => k_is
        case e_NoCommand => k_is
        case eb => kernel_rfl
      case y_WayError =>
        refine' Bx.er0_mk KX N ?a_WayError ?q_WayError ?k_WayError
        case a_WayError => k_is
        case q_WayError => first | k_is | kernel_rfl
        case k_WayError => k_is
      case x_Wrong =>
        refine' Bx.erC_mk KX N ?a_Wrong ?i_Wrong ?l_Wrong ?cd_Wrong ?lc_Wrong ?ce_Wrong ?oC_Wrong ?sa_Wrong ?bx_Wrong ?ty_Wrong ?kC_Wrong ?tf1_Wrong ?su_Wrong ?oq_Wrong ?ve_Wrong ?mr_Wrong ?ni_Wrong ?xi_Wrong ?fo_Wrong ?v2_Wrong ?fl_Wrong ?hp_Wrong ?s1_Wrong ?s2_Wrong ?s3_Wrong ?s4_Wrong ?s5_Wrong ?s6_Wrong ?s7_Wrong ?s8_Wrong ?ev_Wrong ?rf_Wrong ?n1_Wrong ?n2_Wrong ?n3_Wrong ?tp_Wrong ?bd_Wrong
        case a_Wrong => k_is
        case i_Wrong => k_is
        case l_Wrong => k_is
        case cd_Wrong => k_is
        case lc_Wrong => k_is
        case ce_Wrong => k_is
        case oC_Wrong => k_is
        case sa_Wrong => k_is
        case bx_Wrong => k_is
        case ty_Wrong => k_is
        case kC_Wrong => k_is
        case tf1_Wrong => k_is
        case su_Wrong => k_is
        case oq_Wrong => k_is
        case ve_Wrong => k_is
        case mr_Wrong => first | k_is | kernel_rfl
        case ni_Wrong => first | ks_is | kernel_rfl
        case xi_Wrong => kernel_rfl
        case fo_Wrong => kernel_rfl
        case v2_Wrong => rfl
        case fl_Wrong => first | rfl | decide +kernel
        case hp_Wrong => rfl
        case s1_Wrong => rfl
        case s2_Wrong => rfl
        case s3_Wrong => rfl
        case s4_Wrong => rfl
        case s5_Wrong => first | rfl | decide +kernel
        case s6_Wrong => rfl
        case s7_Wrong => rfl
        case s8_Wrong => rfl
        case ev_Wrong => exact fun L => ⟨rfl, rfl, rfl, rfl, _, rfl⟩
        case rf_Wrong => rfl
        case n1_Wrong => decide +kernel
        case n2_Wrong => decide +kernel
        case n3_Wrong => decide +kernel
        case tp_Wrong => first | rfl | decide +kernel
        case bd_Wrong => exact fun us hl => match us, hl with | [_, _], _ => rfl
      case x_TooMany =>
        refine' Bx.erC_mk KX N ?a_TooMany ?i_TooMany ?l_TooMany ?cd_TooMany ?lc_TooMany ?ce_TooMany ?oC_TooMany ?sa_TooMany ?bx_TooMany ?ty_TooMany ?kC_TooMany ?tf1_TooMany ?su_TooMany ?oq_TooMany ?ve_TooMany ?mr_TooMany ?ni_TooMany ?xi_TooMany ?fo_TooMany ?v2_TooMany ?fl_TooMany ?hp_TooMany ?s1_TooMany ?s2_TooMany ?s3_TooMany ?s4_TooMany ?s5_TooMany ?s6_TooMany ?s7_TooMany ?s8_TooMany ?ev_TooMany ?rf_TooMany ?n1_TooMany ?n2_TooMany ?n3_TooMany ?tp_TooMany ?bd_TooMany
        case a_TooMany => k_is
        case i_TooMany => k_is
        case l_TooMany => k_is
        case cd_TooMany => k_is
        case lc_TooMany => k_is
        case ce_TooMany => k_is
        case oC_TooMany => k_is
        case sa_TooMany => k_is
        case bx_TooMany => k_is
        case ty_TooMany => k_is
        case kC_TooMany => k_is
        case tf1_TooMany => k_is
        case su_TooMany => k_is
        case oq_TooMany => k_is
        case ve_TooMany => k_is
        case mr_TooMany => first | k_is | kernel_rfl
        case ni_TooMany => first | ks_is | kernel_rfl
        case xi_TooMany => kernel_rfl
        case fo_TooMany => kernel_rfl
        case v2_TooMany => rfl
        case fl_TooMany => first | rfl | decide +kernel
        case hp_TooMany => rfl
        case s1_TooMany => rfl
        case s2_TooMany => rfl
        case s3_TooMany => rfl
        case s4_TooMany => rfl
        case s5_TooMany => first | rfl | decide +kernel
        case s6_TooMany => rfl
        case s7_TooMany => rfl
        case s8_TooMany => rfl
        case ev_TooMany => exact fun L => ⟨rfl, rfl, rfl, rfl, _, rfl⟩
        case rf_TooMany => rfl
        case n1_TooMany => decide +kernel
        case n2_TooMany => decide +kernel
        case n3_TooMany => decide +kernel
        case tp_TooMany => first | rfl | decide +kernel
        case bd_TooMany => exact fun us hl => match us, hl with | [_, _], _ => rfl
      case x_NoName =>
        refine' Bx.erC_mk KX N ?a_NoName ?i_NoName ?l_NoName ?cd_NoName ?lc_NoName ?ce_NoName ?oC_NoName ?sa_NoName ?bx_NoName ?ty_NoName ?kC_NoName ?tf1_NoName ?su_NoName ?oq_NoName ?ve_NoName ?mr_NoName ?ni_NoName ?xi_NoName ?fo_NoName ?v2_NoName ?fl_NoName ?hp_NoName ?s1_NoName ?s2_NoName ?s3_NoName ?s4_NoName ?s5_NoName ?s6_NoName ?s7_NoName ?s8_NoName ?ev_NoName ?rf_NoName ?n1_NoName ?n2_NoName ?n3_NoName ?tp_NoName ?bd_NoName
        case a_NoName => k_is
        case i_NoName => k_is
        case l_NoName => k_is
        case cd_NoName => k_is
        case lc_NoName => k_is
        case ce_NoName => k_is
        case oC_NoName => k_is
        case sa_NoName => k_is
        case bx_NoName => k_is
        case ty_NoName => k_is
        case kC_NoName => k_is
        case tf1_NoName => k_is
        case su_NoName => k_is
        case oq_NoName => k_is
        case ve_NoName => k_is
        case mr_NoName => first | k_is | kernel_rfl
        case ni_NoName => first | ks_is | kernel_rfl
        case xi_NoName => kernel_rfl
        case fo_NoName => kernel_rfl
        case v2_NoName => rfl
        case fl_NoName => first | rfl | decide +kernel
        case hp_NoName => rfl
        case s1_NoName => rfl
        case s2_NoName => rfl
        case s3_NoName => rfl
        case s4_NoName => rfl
        case s5_NoName => first | rfl | decide +kernel
        case s6_NoName => rfl
        case s7_NoName => rfl
        case s8_NoName => rfl
        case ev_NoName => exact fun L => ⟨rfl, rfl, rfl, rfl, _, rfl⟩
        case rf_NoName => rfl
        case n1_NoName => decide +kernel
        case n2_NoName => decide +kernel
        case n3_NoName => decide +kernel
        case tp_NoName => first | rfl | decide +kernel
        case bd_NoName => exact fun us hl => match us, hl with | [_, _], _ => rfl
      case x_Twice =>
        refine' Bx.erC_mk KX N ?a_Twice ?i_Twice ?l_Twice ?cd_Twice ?lc_Twice ?ce_Twice ?oC_Twice ?sa_Twice ?bx_Twice ?ty_Twice ?kC_Twice ?tf1_Twice ?su_Twice ?oq_Twice ?ve_Twice ?mr_Twice ?ni_Twice ?xi_Twice ?fo_Twice ?v2_Twice ?fl_Twice ?hp_Twice ?s1_Twice ?s2_Twice ?s3_Twice ?s4_Twice ?s5_Twice ?s6_Twice ?s7_Twice ?s8_Twice ?ev_Twice ?rf_Twice ?n1_Twice ?n2_Twice ?n3_Twice ?tp_Twice ?bd_Twice
        case a_Twice => k_is
        case i_Twice => k_is
        case l_Twice => k_is
        case cd_Twice => k_is
        case lc_Twice => k_is
        case ce_Twice => k_is
        case oC_Twice => k_is
        case sa_Twice => k_is
        case bx_Twice => k_is
        case ty_Twice => k_is
        case kC_Twice => k_is
        case tf1_Twice => k_is
        case su_Twice => k_is
        case oq_Twice => k_is
        case ve_Twice => k_is
        case mr_Twice => first | k_is | kernel_rfl
        case ni_Twice => first | ks_is | kernel_rfl
        case xi_Twice => kernel_rfl
        case fo_Twice => kernel_rfl
        case v2_Twice => rfl
        case fl_Twice => first | rfl | decide +kernel
        case hp_Twice => rfl
        case s1_Twice => rfl
        case s2_Twice => rfl
        case s3_Twice => rfl
        case s4_Twice => rfl
        case s5_Twice => first | rfl | decide +kernel
        case s6_Twice => rfl
        case s7_Twice => rfl
        case s8_Twice => rfl
        case ev_Twice => exact fun L => ⟨rfl, rfl, rfl, rfl, _, rfl⟩
        case rf_Twice => rfl
        case n1_Twice => decide +kernel
        case n2_Twice => decide +kernel
        case n3_Twice => decide +kernel
        case tp_Twice => first | rfl | decide +kernel
        case bd_Twice => exact fun us hl => match us, hl with | [_, _], _ => rfl
      case x_Idle =>
        refine' Bx.erC_mk KX N ?a_Idle ?i_Idle ?l_Idle ?cd_Idle ?lc_Idle ?ce_Idle ?oC_Idle ?sa_Idle ?bx_Idle ?ty_Idle ?kC_Idle ?tf1_Idle ?su_Idle ?oq_Idle ?ve_Idle ?mr_Idle ?ni_Idle ?xi_Idle ?fo_Idle ?v2_Idle ?fl_Idle ?hp_Idle ?s1_Idle ?s2_Idle ?s3_Idle ?s4_Idle ?s5_Idle ?s6_Idle ?s7_Idle ?s8_Idle ?ev_Idle ?rf_Idle ?n1_Idle ?n2_Idle ?n3_Idle ?tp_Idle ?bd_Idle
        case a_Idle => k_is
        case i_Idle => k_is
        case l_Idle => k_is
        case cd_Idle => k_is
        case lc_Idle => k_is
        case ce_Idle => k_is
        case oC_Idle => k_is
        case sa_Idle => k_is
        case bx_Idle => k_is
        case ty_Idle => k_is
        case kC_Idle => k_is
        case tf1_Idle => k_is
        case su_Idle => k_is
        case oq_Idle => k_is
        case ve_Idle => k_is
        case mr_Idle => first | k_is | kernel_rfl
        case ni_Idle => first | ks_is | kernel_rfl
        case xi_Idle => kernel_rfl
        case fo_Idle => kernel_rfl
        case v2_Idle => rfl
        case fl_Idle => first | rfl | decide +kernel
        case hp_Idle => rfl
        case s1_Idle => rfl
        case s2_Idle => rfl
        case s3_Idle => rfl
        case s4_Idle => rfl
        case s5_Idle => first | rfl | decide +kernel
        case s6_Idle => rfl
        case s7_Idle => rfl
        case s8_Idle => rfl
        case ev_Idle => exact fun L => ⟨rfl, rfl, rfl, rfl, _, rfl⟩
        case rf_Idle => rfl
        case n1_Idle => decide +kernel
        case n2_Idle => decide +kernel
        case n3_Idle => decide +kernel
        case tp_Idle => first | rfl | decide +kernel
        case bd_Idle => exact fun us hl => match us, hl with | [_, _], _ => rfl
      case x_BadEquality =>
        refine' Bx.erC_mk KX N ?a_BadEquality ?i_BadEquality ?l_BadEquality ?cd_BadEquality ?lc_BadEquality ?ce_BadEquality ?oC_BadEquality ?sa_BadEquality ?bx_BadEquality ?ty_BadEquality ?kC_BadEquality ?tf1_BadEquality ?su_BadEquality ?oq_BadEquality ?ve_BadEquality ?mr_BadEquality ?ni_BadEquality ?xi_BadEquality ?fo_BadEquality ?v2_BadEquality ?fl_BadEquality ?hp_BadEquality ?s1_BadEquality ?s2_BadEquality ?s3_BadEquality ?s4_BadEquality ?s5_BadEquality ?s6_BadEquality ?s7_BadEquality ?s8_BadEquality ?ev_BadEquality ?rf_BadEquality ?n1_BadEquality ?n2_BadEquality ?n3_BadEquality ?tp_BadEquality ?bd_BadEquality
        case a_BadEquality => k_is
        case i_BadEquality => k_is
        case l_BadEquality => k_is
        case cd_BadEquality => k_is
        case lc_BadEquality => k_is
        case ce_BadEquality => k_is
        case oC_BadEquality => k_is
        case sa_BadEquality => k_is
        case bx_BadEquality => k_is
        case ty_BadEquality => k_is
        case kC_BadEquality => k_is
        case tf1_BadEquality => k_is
        case su_BadEquality => k_is
        case oq_BadEquality => k_is
        case ve_BadEquality => k_is
        case mr_BadEquality => first | k_is | kernel_rfl
        case ni_BadEquality => first | ks_is | kernel_rfl
        case xi_BadEquality => kernel_rfl
        case fo_BadEquality => kernel_rfl
        case v2_BadEquality => rfl
        case fl_BadEquality => first | rfl | decide +kernel
        case hp_BadEquality => rfl
        case s1_BadEquality => rfl
        case s2_BadEquality => rfl
        case s3_BadEquality => rfl
        case s4_BadEquality => rfl
        case s5_BadEquality => first | rfl | decide +kernel
        case s6_BadEquality => rfl
        case s7_BadEquality => rfl
        case s8_BadEquality => rfl
        case ev_BadEquality => exact fun L => ⟨rfl, rfl, rfl, rfl, _, rfl⟩
        case rf_BadEquality => rfl
        case n1_BadEquality => decide +kernel
        case n2_BadEquality => decide +kernel
        case n3_BadEquality => decide +kernel
        case tp_BadEquality => first | rfl | decide +kernel
        case bd_BadEquality => exact fun us hl => match us, hl with | [_, _], _ => rfl
      case x_NoLabel =>
        refine' Bx.erC_mk KX N ?a_NoLabel ?i_NoLabel ?l_NoLabel ?cd_NoLabel ?lc_NoLabel ?ce_NoLabel ?oC_NoLabel ?sa_NoLabel ?bx_NoLabel ?ty_NoLabel ?kC_NoLabel ?tf1_NoLabel ?su_NoLabel ?oq_NoLabel ?ve_NoLabel ?mr_NoLabel ?ni_NoLabel ?xi_NoLabel ?fo_NoLabel ?v2_NoLabel ?fl_NoLabel ?hp_NoLabel ?s1_NoLabel ?s2_NoLabel ?s3_NoLabel ?s4_NoLabel ?s5_NoLabel ?s6_NoLabel ?s7_NoLabel ?s8_NoLabel ?ev_NoLabel ?rf_NoLabel ?n1_NoLabel ?n2_NoLabel ?n3_NoLabel ?tp_NoLabel ?bd_NoLabel
        case a_NoLabel => k_is
        case i_NoLabel => k_is
        case l_NoLabel => k_is
        case cd_NoLabel => k_is
        case lc_NoLabel => k_is
        case ce_NoLabel => k_is
        case oC_NoLabel => k_is
        case sa_NoLabel => k_is
        case bx_NoLabel => k_is
        case ty_NoLabel => k_is
        case kC_NoLabel => k_is
        case tf1_NoLabel => k_is
        case su_NoLabel => k_is
        case oq_NoLabel => k_is
        case ve_NoLabel => k_is
        case mr_NoLabel => first | k_is | kernel_rfl
        case ni_NoLabel => first | ks_is | kernel_rfl
        case xi_NoLabel => kernel_rfl
        case fo_NoLabel => kernel_rfl
        case v2_NoLabel => rfl
        case fl_NoLabel => first | rfl | decide +kernel
        case hp_NoLabel => rfl
        case s1_NoLabel => rfl
        case s2_NoLabel => rfl
        case s3_NoLabel => rfl
        case s4_NoLabel => rfl
        case s5_NoLabel => first | rfl | decide +kernel
        case s6_NoLabel => rfl
        case s7_NoLabel => rfl
        case s8_NoLabel => rfl
        case ev_NoLabel => exact fun L => ⟨rfl, rfl, rfl, rfl, _, rfl⟩
        case rf_NoLabel => rfl
        case n1_NoLabel => decide +kernel
        case n2_NoLabel => decide +kernel
        case n3_NoLabel => decide +kernel
        case tp_NoLabel => first | rfl | decide +kernel
        case bd_NoLabel => exact fun us hl => match us, hl with | [_, _], _ => rfl
      case x_NoEquality =>
        refine' Bx.erC_mk KX N ?a_NoEquality ?i_NoEquality ?l_NoEquality ?cd_NoEquality ?lc_NoEquality ?ce_NoEquality ?oC_NoEquality ?sa_NoEquality ?bx_NoEquality ?ty_NoEquality ?kC_NoEquality ?tf1_NoEquality ?su_NoEquality ?oq_NoEquality ?ve_NoEquality ?mr_NoEquality ?ni_NoEquality ?xi_NoEquality ?fo_NoEquality ?v2_NoEquality ?fl_NoEquality ?hp_NoEquality ?s1_NoEquality ?s2_NoEquality ?s3_NoEquality ?s4_NoEquality ?s5_NoEquality ?s6_NoEquality ?s7_NoEquality ?s8_NoEquality ?ev_NoEquality ?rf_NoEquality ?n1_NoEquality ?n2_NoEquality ?n3_NoEquality ?tp_NoEquality ?bd_NoEquality
        case a_NoEquality => k_is
        case i_NoEquality => k_is
        case l_NoEquality => k_is
        case cd_NoEquality => k_is
        case lc_NoEquality => k_is
        case ce_NoEquality => k_is
        case oC_NoEquality => k_is
        case sa_NoEquality => k_is
        case bx_NoEquality => k_is
        case ty_NoEquality => k_is
        case kC_NoEquality => k_is
        case tf1_NoEquality => k_is
        case su_NoEquality => k_is
        case oq_NoEquality => k_is
        case ve_NoEquality => k_is
        case mr_NoEquality => first | k_is | kernel_rfl
        case ni_NoEquality => first | ks_is | kernel_rfl
        case xi_NoEquality => kernel_rfl
        case fo_NoEquality => kernel_rfl
        case v2_NoEquality => rfl
        case fl_NoEquality => first | rfl | decide +kernel
        case hp_NoEquality => rfl
        case s1_NoEquality => rfl
        case s2_NoEquality => rfl
        case s3_NoEquality => rfl
        case s4_NoEquality => rfl
        case s5_NoEquality => first | rfl | decide +kernel
        case s6_NoEquality => rfl
        case s7_NoEquality => rfl
        case s8_NoEquality => rfl
        case ev_NoEquality => exact fun L => ⟨rfl, rfl, rfl, rfl, _, rfl⟩
        case rf_NoEquality => rfl
        case n1_NoEquality => decide +kernel
        case n2_NoEquality => decide +kernel
        case n3_NoEquality => decide +kernel
        case tp_NoEquality => first | rfl | decide +kernel
        case bd_NoEquality => exact fun us hl => match us, hl with | [_, _], _ => rfl
      case x_Ring =>
        refine' Bx.erC_mk KX N ?a_Ring ?i_Ring ?l_Ring ?cd_Ring ?lc_Ring ?ce_Ring ?oC_Ring ?sa_Ring ?bx_Ring ?ty_Ring ?kC_Ring ?tf1_Ring ?su_Ring ?oq_Ring ?ve_Ring ?mr_Ring ?ni_Ring ?xi_Ring ?fo_Ring ?v2_Ring ?fl_Ring ?hp_Ring ?s1_Ring ?s2_Ring ?s3_Ring ?s4_Ring ?s5_Ring ?s6_Ring ?s7_Ring ?s8_Ring ?ev_Ring ?rf_Ring ?n1_Ring ?n2_Ring ?n3_Ring ?tp_Ring ?bd_Ring
        case a_Ring => k_is
        case i_Ring => k_is
        case l_Ring => k_is
        case cd_Ring => k_is
        case lc_Ring => k_is
        case ce_Ring => k_is
        case oC_Ring => k_is
        case sa_Ring => k_is
        case bx_Ring => k_is
        case ty_Ring => k_is
        case kC_Ring => k_is
        case tf1_Ring => k_is
        case su_Ring => k_is
        case oq_Ring => k_is
        case ve_Ring => k_is
        case mr_Ring => first | k_is | kernel_rfl
        case ni_Ring => first | ks_is | kernel_rfl
        case xi_Ring => kernel_rfl
        case fo_Ring => kernel_rfl
        case v2_Ring => rfl
        case fl_Ring => first | rfl | decide +kernel
        case hp_Ring => rfl
        case s1_Ring => rfl
        case s2_Ring => rfl
        case s3_Ring => rfl
        case s4_Ring => rfl
        case s5_Ring => first | rfl | decide +kernel
        case s6_Ring => rfl
        case s7_Ring => rfl
        case s8_Ring => rfl
        case ev_Ring => exact fun L => ⟨rfl, rfl, rfl, rfl, _, rfl⟩
        case rf_Ring => rfl
        case n1_Ring => decide +kernel
        case n2_Ring => decide +kernel
        case n3_Ring => decide +kernel
        case tp_Ring => first | rfl | decide +kernel
        case bd_Ring => exact fun us hl => match us, hl with | [_, _], _ => rfl
      case y_NoWay =>
        refine' Bx.er0_mk KX N ?a_NoWay ?q_NoWay ?k_NoWay
        case a_NoWay => k_is
        case q_NoWay => first | k_is | kernel_rfl
        case k_NoWay => k_is
      case y_Unlike =>
        refine' Bx.er0_mk KX N ?a_Unlike ?q_Unlike ?k_Unlike
        case a_Unlike => k_is
        case q_Unlike => first | k_is | kernel_rfl
        case k_Unlike => k_is
      case x_NoPlace =>
        refine' Bx.erC_mk KX N ?a_NoPlace ?i_NoPlace ?l_NoPlace ?cd_NoPlace ?lc_NoPlace ?ce_NoPlace ?oC_NoPlace ?sa_NoPlace ?bx_NoPlace ?ty_NoPlace ?kC_NoPlace ?tf1_NoPlace ?su_NoPlace ?oq_NoPlace ?ve_NoPlace ?mr_NoPlace ?ni_NoPlace ?xi_NoPlace ?fo_NoPlace ?v2_NoPlace ?fl_NoPlace ?hp_NoPlace ?s1_NoPlace ?s2_NoPlace ?s3_NoPlace ?s4_NoPlace ?s5_NoPlace ?s6_NoPlace ?s7_NoPlace ?s8_NoPlace ?ev_NoPlace ?rf_NoPlace ?n1_NoPlace ?n2_NoPlace ?n3_NoPlace ?tp_NoPlace ?bd_NoPlace
        case a_NoPlace => k_is
        case i_NoPlace => k_is
        case l_NoPlace => k_is
        case cd_NoPlace => k_is
        case lc_NoPlace => k_is
        case ce_NoPlace => k_is
        case oC_NoPlace => k_is
        case sa_NoPlace => k_is
        case bx_NoPlace => k_is
        case ty_NoPlace => k_is
        case kC_NoPlace => k_is
        case tf1_NoPlace => k_is
        case su_NoPlace => k_is
        case oq_NoPlace => k_is
        case ve_NoPlace => k_is
        case mr_NoPlace => first | k_is | kernel_rfl
        case ni_NoPlace => first | ks_is | kernel_rfl
        case xi_NoPlace => kernel_rfl
        case fo_NoPlace => kernel_rfl
        case v2_NoPlace => rfl
        case fl_NoPlace => first | rfl | decide +kernel
        case hp_NoPlace => rfl
        case s1_NoPlace => rfl
        case s2_NoPlace => rfl
        case s3_NoPlace => rfl
        case s4_NoPlace => rfl
        case s5_NoPlace => first | rfl | decide +kernel
        case s6_NoPlace => rfl
        case s7_NoPlace => rfl
        case s8_NoPlace => rfl
        case ev_NoPlace => exact fun L => ⟨rfl, rfl, rfl, rfl, _, rfl⟩
        case rf_NoPlace => rfl
        case n1_NoPlace => decide +kernel
        case n2_NoPlace => decide +kernel
        case n3_NoPlace => decide +kernel
        case tp_NoPlace => first | rfl | decide +kernel
        case bd_NoPlace => exact fun us hl => match us, hl with | [_, _], _ => rfl
      case x_NoState =>
        refine' Bx.erC_mk KX N ?a_NoState ?i_NoState ?l_NoState ?cd_NoState ?lc_NoState ?ce_NoState ?oC_NoState ?sa_NoState ?bx_NoState ?ty_NoState ?kC_NoState ?tf1_NoState ?su_NoState ?oq_NoState ?ve_NoState ?mr_NoState ?ni_NoState ?xi_NoState ?fo_NoState ?v2_NoState ?fl_NoState ?hp_NoState ?s1_NoState ?s2_NoState ?s3_NoState ?s4_NoState ?s5_NoState ?s6_NoState ?s7_NoState ?s8_NoState ?ev_NoState ?rf_NoState ?n1_NoState ?n2_NoState ?n3_NoState ?tp_NoState ?bd_NoState
        case a_NoState => k_is
        case i_NoState => k_is
        case l_NoState => k_is
        case cd_NoState => k_is
        case lc_NoState => k_is
        case ce_NoState => k_is
        case oC_NoState => k_is
        case sa_NoState => k_is
        case bx_NoState => k_is
        case ty_NoState => k_is
        case kC_NoState => k_is
        case tf1_NoState => k_is
        case su_NoState => k_is
        case oq_NoState => k_is
        case ve_NoState => k_is
        case mr_NoState => first | k_is | kernel_rfl
        case ni_NoState => first | ks_is | kernel_rfl
        case xi_NoState => kernel_rfl
        case fo_NoState => kernel_rfl
        case v2_NoState => rfl
        case fl_NoState => first | rfl | decide +kernel
        case hp_NoState => rfl
        case s1_NoState => rfl
        case s2_NoState => rfl
        case s3_NoState => rfl
        case s4_NoState => rfl
        case s5_NoState => first | rfl | decide +kernel
        case s6_NoState => rfl
        case s7_NoState => rfl
        case s8_NoState => rfl
        case ev_NoState => exact fun L => ⟨rfl, rfl, rfl, rfl, _, rfl⟩
        case rf_NoState => rfl
        case n1_NoState => decide +kernel
        case n2_NoState => decide +kernel
        case n3_NoState => decide +kernel
        case tp_NoState => first | rfl | decide +kernel
        case bd_NoState => exact fun us hl => match us, hl with | [_, _], _ => rfl
      case y_Nothing =>
        refine' Bx.er0_mk KX N ?a_Nothing ?q_Nothing ?k_Nothing
        case a_Nothing => k_is
        case q_Nothing => first | k_is | kernel_rfl
        case k_Nothing => k_is
      case x_NoText =>
        refine' Bx.erC_mk KX N ?a_NoText ?i_NoText ?l_NoText ?cd_NoText ?lc_NoText ?ce_NoText ?oC_NoText ?sa_NoText ?bx_NoText ?ty_NoText ?kC_NoText ?tf1_NoText ?su_NoText ?oq_NoText ?ve_NoText ?mr_NoText ?ni_NoText ?xi_NoText ?fo_NoText ?v2_NoText ?fl_NoText ?hp_NoText ?s1_NoText ?s2_NoText ?s3_NoText ?s4_NoText ?s5_NoText ?s6_NoText ?s7_NoText ?s8_NoText ?ev_NoText ?rf_NoText ?n1_NoText ?n2_NoText ?n3_NoText ?tp_NoText ?bd_NoText
        case a_NoText => k_is
        case i_NoText => k_is
        case l_NoText => k_is
        case cd_NoText => k_is
        case lc_NoText => k_is
        case ce_NoText => k_is
        case oC_NoText => k_is
        case sa_NoText => k_is
        case bx_NoText => k_is
        case ty_NoText => k_is
        case kC_NoText => k_is
        case tf1_NoText => k_is
        case su_NoText => k_is
        case oq_NoText => k_is
        case ve_NoText => k_is
        case mr_NoText => first | k_is | kernel_rfl
        case ni_NoText => first | ks_is | kernel_rfl
        case xi_NoText => kernel_rfl
        case fo_NoText => kernel_rfl
        case v2_NoText => rfl
        case fl_NoText => first | rfl | decide +kernel
        case hp_NoText => rfl
        case s1_NoText => rfl
        case s2_NoText => rfl
        case s3_NoText => rfl
        case s4_NoText => rfl
        case s5_NoText => first | rfl | decide +kernel
        case s6_NoText => rfl
        case s7_NoText => rfl
        case s8_NoText => rfl
        case ev_NoText => exact fun L => ⟨rfl, rfl, rfl, rfl, _, rfl⟩
        case rf_NoText => rfl
        case n1_NoText => decide +kernel
        case n2_NoText => decide +kernel
        case n3_NoText => decide +kernel
        case tp_NoText => first | rfl | decide +kernel
        case bd_NoText => exact fun us hl => match us, hl with | [_, _], _ => rfl
      case y_NoCommand =>
        refine' Bx.er0_mk KX N ?a_NoCommand ?q_NoCommand ?k_NoCommand
        case a_NoCommand => k_is
        case q_NoCommand => first | k_is | kernel_rfl
        case k_NoCommand => k_is
    case h__law_bag =>
      refine' K10.ff_mk ?a__law_bag ?l__law_bag ?c__law_bag ?k__law_bag
      case a__law_bag => k_is
      case l__law_bag => k_is
      case c__law_bag => k_is
      case k__law_bag => k_is
    case h__law_take =>
      refine' K10.ff_mk ?a__law_take ?l__law_take ?c__law_take ?k__law_take
      case a__law_take => k_is
      case l__law_take => k_is
      case c__law_take => k_is
      case k__law_take => k_is
    case h__law_alike =>
      refine' K10.ff_mk ?a__law_alike ?l__law_alike ?c__law_alike ?k__law_alike
      case a__law_alike => k_is
      case l__law_alike => k_is
      case c__law_alike => k_is
      case k__law_alike => k_is
    case h__law_errors =>
      refine' K10.ff_mk ?a__law_errors ?l__law_errors ?c__law_errors ?k__law_errors
      case a__law_errors => k_is
      case l__law_errors => k_is
      case c__law_errors => k_is
      case k__law_errors => k_is
    case h__law_flags =>
      refine' K10.ff_mk ?a__law_flags ?l__law_flags ?c__law_flags ?k__law_flags
      case a__law_flags => k_is
      case l__law_flags => k_is
      case c__law_flags => k_is
      case k__law_flags => k_is
    case h__law_fields =>
      refine' K10.ff_mk ?a__law_fields ?l__law_fields ?c__law_fields ?k__law_fields
      case a__law_fields => k_is
      case l__law_fields => k_is
      case c__law_fields => k_is
      case k__law_fields => k_is
    case a => k_is
    case l => k_is
    case c => k_is
    case k => k_is
