import PyProof.Rows.All
import Wide.All
import OpenK.AllK
import Wide.FinOn
import HandS.ForMost
import HandS.ExcInit
import HandS.Lambda
import HandS.ForExc
import HandS.CallSlots
import HandS.IsInst
import HandS.TupAny
import HandS.Wide
import HandS.Flow
import HandS.DictComp
import KE.KEqNest
import KE.DataCmp
import KE.DataEq
import KE.DataAny
import KE.DataMinMax
import KE.SortData
import PyProof.ReprRoads
import HandS.HeadHook3
import HandS.More
import HandS.TupSets
import HandS.Dict
import PyProof.StrLawsRepr
import KE.KExcSuper
import KE.KExcIs
import HandS.ExcField
import HandS.ExcIs
import HandS.ExcValue
import KE.DataFind
import HandS.Small
import PyProof.ReprLen
import PySem.Challenge.RW_unaskedways_k90_terms_and_places
set_option Elab.async false
set_option linter.all false
set_option maxRecDepth 100000
set_option autoImplicit false
namespace Bx
open PySem PySem.Spec PyProof.Rows L2

/-- a value: what does not change stands as a tree; what may change by its number -/
inductive D where
  | non
  | bl (b : Bool)
  | int (i : Int)
  | str (x : Str)
  | tup (ds : List D)
  | lst (ds : List D)
  | dct (kds : List (Key × D))
  | obj (c : Str) (fds : List (Str × D))
  | exn (c : Str) (ds : List D)
  | cau (a : Addr) (d : Option Addr) (c : Str) (ds : List D)
  | ref (n : Nat)
  | scr (ns : List Int)
  | val (v : V)
  deriving Inhabited

/-- an object that may change -/
inductive O where
  | lst (ds : List D)
  | dct (kds : List (Key × D))
  | ins (c : Str) (fds : List (Str × D))
  | gone
  deriving Inhabited

abbrev Hh := List O
abbrev Rho := List (Option D)

/-- how a step ends -/
inductive Res (α : Type) where
  | ok (a : α) (h : Hh)
  | exc (c : Str) (ds : List D) (h : Hh)
  | bad

namespace Res
variable {α β : Type}
def bind (r : Res α) (f : α → Hh → Res β) : Res β := match r with
  | .ok a h => f a h
  | .exc c ds h => .exc c ds h
  | .bad => .bad
@[simp] theorem bind_ok (a : α) (h : Hh) (f : α → Hh → Res β) : (Res.ok a h).bind f = f a h := rfl
@[simp] theorem bind_exc (c : Str) (ds : List D) (h : Hh) (f : α → Hh → Res β) : (Res.exc c ds h : Res α).bind f = .exc c ds h := rfl
@[simp] theorem bind_bad (f : α → Hh → Res β) : (Res.bad : Res α).bind f = .bad := rfl
end Res

/-- where things stand: m, the addresses of the objects by number; F, the addresses of what no longer changes; P, what is held as it is for a while -/
structure Wd where
  m : List Addr
  F : Addr → Prop
  P : List (Addr × HO)

def Wd.frz (w : Wd) (a : Addr) : Wd := ⟨w.m, fun b => b = a ∨ w.F b, w.P⟩
def Wd.new (w : Wd) (a : Addr) : Wd := ⟨w.m ++ [a], w.F, w.P⟩
def Wd.cut (w : Wd) (n : Nat) : Wd := ⟨w.m.take n, w.F, w.P⟩
def Wd.hold (w : Wd) (a : Addr) (o : HO) : Wd := ⟨w.m, w.F, (a, o) :: w.P⟩

/-- what does not change at all: the written part, the module's names -/
structure Gx where
  K : PySem.W.Frag
  mg : Str → Option Value
  T : List (Addr × Str)
/-- what may be written to -/
def Mu : Option HO → Prop
  | some (.lst _) => True
  | some (.dK _) => True
  | some (.ins _ _ _) => True
  | _ => False
theorem Mu.mut {o : Option HO} (h : Mu o) : Mut o := by
  unfold Mu at h
  split at h
  · trivial
  · trivial
  · trivial
  · exact h.elim
/-- the tables of code objects stay where nothing but such things is written -/
theorem tabs_upd {T : List (Addr × Str)} {H : Hp} {p : Addr} {o : HO} (t : LamX.Tabs T H) (h : H p = none ∨ Mu (H p)) : LamX.Tabs T (upd H p o) := fun x hx => by
  obtain ⟨ps, e1, e2, e3⟩ := t x hx
  have ne : ∀ (b : Addr) (u : HO), H b = some u → (¬ Mu (some u)) → b ≠ p := fun b u e n z => by
    subst z
    rcases h with h | h
    · rw [h] at e; cases e
    · rw [e] at h; exact n h
  refine ⟨ps, by rw [upd_ne (ne _ _ e1 (fun z => z))]; exact e1, e2, fun pos cv hc => ?_⟩
  obtain ⟨c, k1, k2⟩ := e3 pos cv hc
  exact ⟨c, k1, by rw [upd_ne (ne _ _ k2 (fun z => z))]; exact k2⟩

/-- the script stands at a: known to its object, or one of the written part's own -/
def ScrAt (mg : Gx) (H : Hp) (a : Addr) (ns : List Int) : Prop := (∃ o : Obj, H a = some (.frz o (.lst (ns.map V.int)))) ∨
  ∃ (o : Obj) (its : Array Value) (n : Nat), mg.K.lookup a = some o ∧ o.cls = .type "list" ∧ o.dict = none ∧ o.data = .seq its n ∧ its.size ≤ sizeLine ∧ Vals (ns.map V.int) its.toList
theorem ScrAt.sq {mg : Gx} {H : Hp} {a : Addr} {ns : List Int} (s : ScrAt mg H a ns) : SqL mg.K H a (ns.map V.int) := by
  rcases s with ⟨o, h⟩ | h
  · exact .inl (.inr ⟨o, h⟩)
  · exact .inr h
/-- the one field of an error, by the class's name -/
def fldOf (c : Str) : Str := if c = "Wrong" then "place" else if c = "TooMany" then "most" else if c = "NoName" then "name" else if c = "Twice" then "label" else if c = "Idle" then "label" else if c = "BadEquality" then "index"
  else if c = "NoLabel" then "label" else if c = "NoEquality" then "index" else if c = "Ring" then "row" else if c = "NoPlace" then "index" else if c = "NoState" then "state" else "line"
/-- an exception held as a value -/
def ExAt (w : Wd) (H : Hp) (a C : Addr) (fs : List (Str × V)) : Prop := w.F a ∧ ((fs = [] ∧ H a = some (exo a C none)) ∨ ∃ d, H a = some (exo a C (some d)) ∧ w.F d ∧ H d = some (exd d fs))
/-- what stays as it is, once it is frozen -/
def Kp : HO → Prop
  | .ins _ _ _ => True
  | .ext _ => True
  | _ => False
section
variable (mg : Gx) (w : Wd) (H : Hp)
mutual
inductive RV : D → V → Prop
  | non : RV .non .non
  | bl (b : Bool) : RV (.bl b) (.bl b)
  | int (i : Int) : RV (.int i) (.int i)
  | str (x : Str) : RV (.str x) (.str x)
  | tup {a : Addr} {vs : List V} {ds : List D} : H a = some (.tup vs) → RVs ds vs → RV (.tup ds) (.ref a)
  | lst {a : Addr} {vs : List V} {ds : List D} : H a = some (.lst vs) → w.F a → RVs ds vs → RV (.lst ds) (.ref a)
  | dct {a : Addr} {o : Obj} {kvs : List (Key × V)} {kds : List (Key × D)} : H a = some (.frz o (.dK kvs)) → kvs.map (·.1) = kds.map (·.1) → RVs (kds.map (·.2)) (kvs.map (·.2)) → RV (.dct kds) (.ref a)
  | obj {a C dx : Addr} {c : Str} {fs : List (Str × V)} {fds : List (Str × D)} : H a = some (.ins C dx fs) → w.F a → mg.mg c = some (.ref C) → fs.map (·.1) = fds.map (·.1) → RVs (fds.map (·.2)) (fs.map (·.2)) → RV (.obj c fds) (.ref a)
  | exn {a C : Addr} {c : Str} {fs : List (Str × V)} {ds : List D} : ExAt w H a C fs → mg.mg c = some (.ref C) → fs.map (·.1) = ds.map (fun _ => fldOf c) → RVs ds (fs.map (·.2)) → RV (.exn c ds) (.ref a)
  | cau0 {a C : Addr} {c : Str} : mg.mg c = some (.ref C) → RV (.cau a none c []) (.ref a)
  | cau {a dd C : Addr} {c : Str} {fs : List (Str × V)} {ds : List D} : mg.mg c = some (.ref C) → H dd = some (.xd fs) → fs.map (·.1) = ds.map (fun _ => fldOf c) → RVs ds (fs.map (·.2)) → RV (.cau a (some dd) c ds) (.ref a)
  | ref {n : Nat} {a : Addr} : w.m[n]? = some a → RV (.ref n) (.ref a)
  | scr {a : Addr} {ns : List Int} : ScrAt mg H a ns → RV (.scr ns) (.ref a)
  | val (v : V) : RV (.val v) v
inductive RVs : List D → List V → Prop
  | nil : RVs [] []
  | cons {d : D} {v : V} {ds : List D} {vs : List V} : RV d v → RVs ds vs → RVs (d :: ds) (v :: vs)
end
end

section
variable {mg : Gx} {w w' w'' : Wd} {H H' H'' : Hp}

theorem RVs.length : ∀ {ds : List D} {vs : List V}, RVs mg w H ds vs → ds.length = vs.length
  | _, _, .nil => rfl
  | _, _, .cons _ t => by rw [List.length_cons, List.length_cons, RVs.length t]
theorem RVs.get : ∀ {ds : List D} {vs : List V} {i : Nat} {d : D}, RVs mg w H ds vs → ds[i]? = some d → ∃ v, vs[i]? = some v ∧ RV mg w H d v
  | _, _, _, _, .nil, e => by simp at e
  | _, _, 0, _, .cons r _, e => by simp at e; subst e; exact ⟨_, rfl, r⟩
  | _, _, i + 1, d, .cons _ t, e => by
    obtain ⟨v, h1, h2⟩ := RVs.get (i := i) (d := d) t (by simpa using e)
    exact ⟨v, by simpa using h1, h2⟩
theorem RVs.getV : ∀ {ds : List D} {vs : List V} {i : Nat} {v : V}, RVs mg w H ds vs → vs[i]? = some v → ∃ d, ds[i]? = some d ∧ RV mg w H d v
  | _, _, _, _, .nil, e => by simp at e
  | _, _, 0, _, .cons r _, e => by simp at e; subst e; exact ⟨_, rfl, r⟩
  | _, _, i + 1, v, .cons _ t, e => by
    obtain ⟨d, h1, h2⟩ := RVs.getV (i := i) (v := v) t (by simpa using e)
    exact ⟨d, by simpa using h1, h2⟩
theorem RVs.append : ∀ {ds es : List D} {vs us : List V}, RVs mg w H ds vs → RVs mg w H es us → RVs mg w H (ds ++ es) (vs ++ us)
  | _, _, _, _, .nil, s => s
  | _, _, _, _, .cons r t, s => .cons r (RVs.append t s)
theorem RVs.take : ∀ {ds : List D} {vs : List V} (n : Nat), RVs mg w H ds vs → RVs mg w H (ds.take n) (vs.take n)
  | _, _, 0, _ => .nil
  | _, _, _ + 1, .nil => .nil
  | _, _, n + 1, .cons r t => .cons r (RVs.take n t)
theorem RVs.drop : ∀ {ds : List D} {vs : List V} (n : Nat), RVs mg w H ds vs → RVs mg w H (ds.drop n) (vs.drop n)
  | _, _, 0, r => r
  | _, _, _ + 1, .nil => .nil
  | _, _, n + 1, .cons _ t => RVs.drop n t
theorem RVs.set : ∀ {ds : List D} {vs : List V} {d : D} {v : V} (i : Nat), RVs mg w H ds vs → RV mg w H d v → RVs mg w H (ds.set i d) (vs.set i v)
  | _, _, _, _, _, .nil, _ => .nil
  | _, _, _, _, 0, .cons _ t, r => .cons r t
  | _, _, _, _, i + 1, .cons q t, r => .cons q (RVs.set i t r)
theorem RVs.reverse : ∀ {ds : List D} {vs : List V}, RVs mg w H ds vs → RVs mg w H ds.reverse vs.reverse
  | _, _, .nil => .nil
  | _, _, .cons r t => by
    rw [List.reverse_cons, List.reverse_cons]
    exact RVs.append (RVs.reverse t) (.cons r .nil)
theorem RVs.one {d : D} {v : V} (r : RV mg w H d v) : RVs mg w H [d] [v] := .cons r .nil

/-- what was known stays -/
structure Lv (w : Wd) (H : Hp) (w' : Wd) (H' : Hp) : Prop where
  frz : ∀ a, w.F a → w'.F a
  lst : ∀ a xs, w.F a → H a = some (.lst xs) → H' a = some (.lst xs)
  sf : ∀ a o u, H a = some (.frz o u) → H' a = some (.frz o u)
  ins : ∀ a o, Kp o → w.F a → H a = some o → H' a = some o
  tup : ∀ a xs, H a = some (.tup xs) → H' a = some (.tup xs)
  xd : ∀ a xs, H a = some (.xd xs) → H' a = some (.xd xs)
  ext : ∃ x, w'.m = w.m ++ x
structure Later (w : Wd) (H : Hp) (w' : Wd) (H' : Hp) : Prop extends Lv w H w' H' where
  pr : w'.P = w.P
theorem Later.refl (w : Wd) (H : Hp) : Later w H w H := ⟨⟨fun _ h => h, fun _ _ _ h => h, fun _ _ _ h => h, fun _ _ _ _ h => h, fun _ _ h => h, fun _ _ h => h, ⟨[], by simp⟩⟩, rfl⟩
theorem Later.trans (a : Later w H w' H') (b : Later w' H' w'' H'') : Later w H w'' H'' := by
  obtain ⟨x, ex⟩ := a.ext
  obtain ⟨y, ey⟩ := b.ext
  exact ⟨⟨fun c h => b.frz c (a.frz c h), fun c u h r => b.lst c u (a.frz c h) (a.lst c u h r), fun c o u h => b.sf c o u (a.sf c o u h), fun c o k h r => b.ins c o k (a.frz c h) (a.ins c o k h r), fun c xs h => b.tup c xs (a.tup c xs h), fun c xs h => b.xd c xs (a.xd c xs h), ⟨x ++ y, by rw [ey, ex, List.append_assoc]⟩⟩, b.pr.trans a.pr⟩
theorem Lv.at (l : Lv w H w' H') {n : Nat} {a : Addr} (h : w.m[n]? = some a) : w'.m[n]? = some a := by
  obtain ⟨x, e⟩ := l.ext
  rw [e, List.getElem?_append_left (List.getElem?_eq_some_iff.mp h).1]
  exact h
theorem ExAt.mono {a C : Addr} {fs : List (Str × V)} (l : Lv w H w' H') (e : ExAt w H a C fs) : ExAt w' H' a C fs := by
  obtain ⟨f, e⟩ := e
  refine ⟨l.frz _ f, ?_⟩
  rcases e with ⟨e1, e2⟩ | ⟨d, e1, fd, e2⟩
  · exact .inl ⟨e1, l.ins _ _ True.intro f e2⟩
  · exact .inr ⟨d, l.ins _ _ True.intro f e1, l.frz _ fd, l.ins _ _ True.intro fd e2⟩
mutual
theorem RV.mono0 (l : Lv w H w' H') : ∀ {d : D} {v : V}, RV mg w H d v → RV mg w' H' d v
  | _, _, .non => .non
  | _, _, .bl b => .bl b
  | _, _, .int i => .int i
  | _, _, .str x => .str x
  | _, _, .tup h t => .tup (l.tup _ _ h) (RVs.mono0 l t)
  | _, _, .lst h f t => .lst (l.lst _ _ f h) (l.frz _ f) (RVs.mono0 l t)
  | _, _, .dct h e t => .dct (l.sf _ _ _ h) e (RVs.mono0 l t)
  | _, _, .obj h f c e t => .obj (l.ins _ _ True.intro f h) (l.frz _ f) c e (RVs.mono0 l t)
  | _, _, .exn h c e t => .exn (h.mono l) c e (RVs.mono0 l t)
  | _, _, .cau0 c => .cau0 c
  | _, _, .cau c h e t => .cau c (l.xd _ _ h) e (RVs.mono0 l t)
  | _, _, .ref h => .ref (l.at h)
  | _, _, .scr h => .scr (h.imp (fun ⟨o, z⟩ => ⟨o, l.sf _ _ _ z⟩) id)
  | _, _, .val v => .val v
theorem RVs.mono0 (l : Lv w H w' H') : ∀ {ds : List D} {vs : List V}, RVs mg w H ds vs → RVs mg w' H' ds vs
  | _, _, .nil => .nil
  | _, _, .cons r t => .cons (RV.mono0 l r) (RVs.mono0 l t)
end
theorem RV.mono (l : Later w H w' H') {d : D} {v : V} (r : RV mg w H d v) : RV mg w' H' d v := r.mono0 l.toLv
theorem RVs.mono (l : Later w H w' H') {ds : List D} {vs : List V} (r : RVs mg w H ds vs) : RVs mg w' H' ds vs := r.mono0 l.toLv
end

/-- an object by number stands at a -/
def OR (mg : Gx) (w : Wd) (H : Hp) (a : Addr) : O → Prop
  | .lst ds => ¬ w.F a ∧ ∃ vs, H a = some (.lst vs) ∧ RVs mg w H ds vs
  | .dct kds => ¬ w.F a ∧ ∃ kvs : List (Key × V), H a = some (.dK kvs) ∧ kvs.map (·.1) = kds.map (·.1) ∧ RVs mg w H (kds.map (·.2)) (kvs.map (·.2))
  | .ins c fds => ¬ w.F a ∧ ∃ (C dx : Addr) (fs : List (Str × V)), H a = some (.ins C dx fs) ∧ mg.mg c = some (.ref C) ∧ fs.map (·.1) = fds.map (·.1) ∧ RVs mg w H (fds.map (·.2)) (fs.map (·.2))
  | .gone => w.F a

structure HR (mg : Gx) (w : Wd) (h : Hh) (H : Hp) : Prop where
  len : w.m.length = h.length
  nd : w.m.Nodup
  fz : ∀ a, w.F a → ∃ u, H a = some u
  ob : ∀ (i : Nat) (o : O) (a : Addr), h[i]? = some o → w.m[i]? = some a → OR mg w H a o
  pr : ∀ p ∈ w.P, H p.1 = some p.2 ∧ ¬ w.F p.1 ∧ p.1 ∉ w.m
  tb : LamX.Tabs mg.T H
  nt : ∀ a ps, w.F a → H a ≠ some (.tbl ps)
  pm : ∀ p ∈ w.P, Mu (some p.2)

/-- the slots -/
def RS (mg : Gx) (w : Wd) (H : Hp) (ρ : Rho) (σ : L2.St) : Prop := ∀ (i : Nat) (d : D), ρ[i]? = some (some d) → ∃ v, σ[i]? = some (some v) ∧ RV mg w H d v

structure SR (mg : Gx) (w : Wd) (ρ : Rho) (h : Hh) (σ : L2.St) (H : Hp) : Prop where
  hr : HR mg w h H
  rs : RS mg w H ρ σ
  ln : ρ.length = σ.length

section
variable {mg : Gx} {w w' w'' : Wd} {H H' H'' : Hp} {h h' : Hh} {ρ : Rho} {σ : L2.St}
theorem RS.mono (l : Later w H w' H') (r : RS mg w H ρ σ) : RS mg w' H' ρ σ := fun i d e => by
  obtain ⟨v, e1, r1⟩ := r i d e
  exact ⟨v, e1, r1.mono l⟩
theorem SR.step (s : SR mg w ρ h σ H) (l : Later w H w' H') (q : HR mg w' h' H') : SR mg w' ρ h' σ H' := ⟨q, s.rs.mono l, s.ln⟩
theorem SR.set (s : SR mg w ρ h σ H) {d : D} {v : V} (r : RV mg w H d v) (i : Nat) : SR mg w (ρ.set i (some d)) h (σ.set i (some v)) H := ⟨s.hr, fun j e hj => by
  by_cases c : i = j
  · subst c
    by_cases hi : i < ρ.length
    · rw [List.getElem?_set_self hi] at hj
      cases hj
      exact ⟨v, List.getElem?_set_self (by rw [← s.ln]; exact hi), r⟩
    · rw [List.getElem?_eq_none (by rw [List.length_set]; omega)] at hj
      cases hj
  · rw [List.getElem?_set_ne c] at hj
    obtain ⟨u, e1, r1⟩ := s.rs j e hj
    exact ⟨u, by rw [List.getElem?_set_ne c]; exact e1, r1⟩, by rw [List.length_set, List.length_set, s.ln]⟩
theorem SR.wipe (s : SR mg w ρ h σ H) (i : Nat) : SR mg w (ρ.set i none) h (σ.set i none) H := ⟨s.hr, fun j e hj => by
  by_cases c : i = j
  · subst c
    by_cases hi : i < ρ.length
    · rw [List.getElem?_set_self hi] at hj
      cases hj
    · rw [List.getElem?_eq_none (by rw [List.length_set]; omega)] at hj
      cases hj
  · rw [List.getElem?_set_ne c] at hj
    obtain ⟨u, e1, r1⟩ := s.rs j e hj
    exact ⟨u, by rw [List.getElem?_set_ne c]; exact e1, r1⟩, by rw [List.length_set, List.length_set, s.ln]⟩

theorem HR.nF (q : HR mg w h H) {p : Addr} (hp : H p = none) : ¬ w.F p := fun z => by
  obtain ⟨u, e⟩ := q.fz p z
  rw [hp] at e
  cases e
theorem OR.some {a : Addr} {o : O} (q : HR mg w h H) (r : OR mg w H a o) : ∃ u, H a = some u := by
  cases o with
  | lst ds => obtain ⟨_, vs, e, _⟩ := r; exact ⟨_, e⟩
  | dct kds => obtain ⟨_, vs, e, _⟩ := r; exact ⟨_, e⟩
  | ins c fds => obtain ⟨_, C, dx, fs, e, _⟩ := r; exact ⟨_, e⟩
  | gone => exact q.fz a r
theorem HR.nm (q : HR mg w h H) {p : Addr} (hp : H p = none) : p ∉ w.m := fun hm => by
  obtain ⟨i, hi, e⟩ := List.getElem_of_mem hm
  have hi' : i < h.length := by rw [← q.len]; exact hi
  obtain ⟨u, e'⟩ := (q.ob i h[i] p (List.getElem?_eq_getElem hi') (by rw [List.getElem?_eq_getElem hi, e])).some q
  rw [hp] at e'
  cases e'
theorem Rd.some {a : Addr} {u : HO} (r : Rd H a u) : ∃ x, H a = some x := by
  rcases r with r | ⟨o, r⟩
  · exact ⟨_, r⟩
  · exact ⟨_, r⟩
theorem Rd.upd {a p : Addr} {u o : HO} (r : Rd H a u) (hne : a ≠ p) : Rd (upd H p o) a u := by
  rcases r with r | ⟨x, r⟩
  · exact .inl (by rw [upd_ne hne]; exact r)
  · exact .inr ⟨x, by rw [upd_ne hne]; exact r⟩
theorem OR.mono0 {a : Addr} {o : O} (l : Lv w H w' H') (hF : w'.F a ↔ w.F a) (hH : H' a = H a ∨ (o = .gone)) (r : OR mg w H a o) : OR mg w' H' a o := by
  cases o with
  | lst ds => obtain ⟨n, vs, e, t⟩ := r; exact ⟨fun z => n (hF.mp z), vs, (hH.resolve_right (fun z => by cases z)).trans e, t.mono0 l⟩
  | dct kds => obtain ⟨n, vs, e, e', t⟩ := r; exact ⟨fun z => n (hF.mp z), vs, (hH.resolve_right (fun z => by cases z)).trans e, e', t.mono0 l⟩
  | ins c fds => obtain ⟨n, C, dx, fs, e, e1, e2, t⟩ := r; exact ⟨fun z => n (hF.mp z), C, dx, fs, (hH.resolve_right (fun z => by cases z)).trans e, e1, e2, t.mono0 l⟩
  | gone => exact hF.mpr r
theorem OR.mono {a : Addr} {o : O} (l : Later w H w' H') (hF : w'.F a ↔ w.F a) (hH : H' a = H a ∨ (o = .gone)) (r : OR mg w H a o) : OR mg w' H' a o := r.mono0 l.toLv hF hH
/-- the heap has a new object that nobody knows by number; it is frozen -/
theorem later_new (q : HR mg w h H) {p : Addr} {o : HO} (hp : H p = none) : Later w H w (upd H p o) :=
  ⟨⟨fun _ z => z, fun a u _ r => by rw [upd_ne (ne_of_none r hp)]; exact r, fun a o u r => by rw [upd_ne (ne_of_none r hp)]; exact r, fun a o' _ _ r => by rw [upd_ne (ne_of_none r hp)]; exact r, fun a xs r => by rw [upd_ne (ne_of_none r hp)]; exact r, fun a xs r => by rw [upd_ne (ne_of_none r hp)]; exact r, ⟨[], by simp⟩⟩, rfl⟩
theorem hr_new (q : HR mg w h H) {p : Addr} {o : HO} (hp : H p = none) : HR mg w h (upd H p o) :=
  ⟨q.len, q.nd, fun a z => by obtain ⟨u, e⟩ := q.fz a z; exact ⟨u, by rw [upd_ne (ne_of_none e hp)]; exact e⟩, fun i ob a e1 e2 => by
    have r := q.ob i ob a e1 e2
    obtain ⟨u, e⟩ := r.some q
    exact r.mono (later_new q hp) Iff.rfl (.inl (upd_ne (ne_of_none e hp))), fun p hm => by
    obtain ⟨e1, e2, e3⟩ := q.pr p hm
    exact ⟨by rw [upd_ne (ne_of_none e1 hp)]; exact e1, e2, e3⟩, tabs_upd q.tb (.inl hp), fun a ps z => by rw [upd_ne (show a ≠ p from fun y => q.nF hp (y ▸ z))]; exact q.nt a ps z, q.pm⟩
theorem later_frz (q : HR mg w h H) {p : Addr} : Later w H (w.frz p) H :=
  ⟨⟨fun _ z => .inr z, fun _ _ _ r => r, fun _ _ _ r => r, fun _ _ _ _ r => r, fun _ _ r => r, fun _ _ r => r, ⟨[], by simp [Wd.frz]⟩⟩, rfl⟩
theorem hr_frz (q : HR mg w h H) {p : Addr} (hm : p ∉ w.m) (hs : ∃ u, H p = some u) (hP : ∀ x ∈ w.P, x.1 ≠ p) (hn : ∀ ps, H p ≠ some (.tbl ps)) : HR mg (w.frz p) h H :=
  ⟨q.len, q.nd, fun a z => by rcases z with rfl | z; exact hs; exact q.fz a z, fun i ob a e1 e2 => by
    have hne : a ≠ p := fun z => hm (z ▸ List.mem_of_getElem? e2)
    exact (q.ob i ob a e1 e2).mono (later_frz q) ⟨fun z => z.resolve_left hne, .inr⟩ (.inl rfl), fun x hx => by
    obtain ⟨e1, e2, e3⟩ := q.pr x hx
    exact ⟨e1, fun z => z.elim (hP x hx) e2, e3⟩, q.tb, fun a ps z => by rcases z with rfl | z; exact hn ps; exact q.nt a ps z, q.pm⟩
theorem HR.np (q : HR mg w h H) {p : Addr} (hp : H p = none) : ∀ x ∈ w.P, x.1 ≠ p := fun x hx => ne_of_none (q.pr x hx).1 hp
/-- a new thing at p, frozen at once -/
theorem later_lay (q : HR mg w h H) {p : Addr} {o : HO} (hp : H p = none) : Later w H (w.frz p) (upd H p o) :=
  (later_new q hp).trans (later_frz (hr_new q hp))
theorem hr_lay (q : HR mg w h H) {p : Addr} {o : HO} (hp : H p = none) (ho : ∀ ps, o ≠ .tbl ps := by intro _ z; cases z) : HR mg (w.frz p) h (upd H p o) :=
  hr_frz (hr_new q hp) (q.nm hp) ⟨o, upd_same⟩ (q.np hp) fun ps z => by rw [upd_same] at z; exact ho ps (Option.some.inj z)
/-- a new thing at p by the next number -/
theorem later_add (q : HR mg w h H) {p : Addr} {o : HO} (hp : H p = none) : Later w H (w.new p) (upd H p o) := by
  have l := later_new q (o := o) hp
  exact ⟨⟨l.frz, l.lst, l.sf, l.ins, l.tup, l.xd, ⟨[p], rfl⟩⟩, rfl⟩
theorem hr_add (q : HR mg w h H) {p : Addr} {o : HO} {ob : O} (hp : H p = none) (hob : OR mg (w.new p) (upd H p o) p ob) : HR mg (w.new p) (h ++ [ob]) (upd H p o) := by
  have l := later_add q (o := o) hp
  refine ⟨by simp [Wd.new, q.len], ?_, fun a z => ?_, fun i o1 a e1 e2 => ?_, fun x hx => ?_, tabs_upd q.tb (.inl hp), fun a ps z => by rw [upd_ne (show a ≠ p from fun y => q.nF hp (y ▸ z))]; exact q.nt a ps z, q.pm⟩
  · show (w.m ++ [p]).Nodup
    rw [List.nodup_append]
    refine ⟨q.nd, by simp, fun a ha b hb => ?_⟩
    have : b = p := by simpa using hb
    subst this
    exact fun z => q.nm hp (z ▸ ha)
  · obtain ⟨u, e⟩ := q.fz a z
    exact ⟨u, by rw [upd_ne (ne_of_none e hp)]; exact e⟩
  · by_cases hi : i < h.length
    · rw [List.getElem?_append_left hi] at e1
      have e2' : w.m[i]? = some a := by
        have e2 : (w.m ++ [p])[i]? = some a := e2
        rw [List.getElem?_append_left (by rw [q.len]; exact hi)] at e2
        exact e2
      have r := q.ob i o1 a e1 e2'
      obtain ⟨u, e⟩ := r.some q
      exact r.mono l Iff.rfl (.inl (upd_ne (ne_of_none e hp)))
    · have hi' : i = h.length := by
        have := (List.getElem?_eq_some_iff.mp e1).1
        simp at this
        omega
      subst hi'
      rw [List.getElem?_append_right (Nat.le_refl _)] at e1
      simp at e1
      have e2 : (w.m ++ [p])[h.length]? = some a := e2
      rw [← q.len, List.getElem?_append_right (Nat.le_refl _)] at e2
      simp at e2
      subst e1 e2
      exact hob
  · obtain ⟨e1, e2, e3⟩ := q.pr x hx
    refine ⟨by rw [upd_ne (ne_of_none e1 hp)]; exact e1, e2, fun z => ?_⟩
    rcases List.mem_append.mp (show x.1 ∈ w.m ++ [p] from z) with z | z
    · exact e3 z
    · exact ne_of_none e1 hp (by simpa using z)
/-- the object number n changes -/
theorem later_put (q : HR mg w h H) {n : Nat} {a : Addr} {ho : HO} {o o' : O} (hn : h[n]? = some o) (ha : w.m[n]? = some a) (hF : ¬ w.F a) (hm : Mu (H a)) : Later w H w (upd H a ho) := by
  refine ⟨⟨fun _ z => z, fun b u f r => by rw [upd_ne (show b ≠ a from fun z => hF (z ▸ f))]; exact r, fun b o u r => by rw [upd_ne (fun z => by subst z; rw [r] at hm; exact hm)]; exact r, fun b o' _ f r => by rw [upd_ne (show b ≠ a from fun z => hF (z ▸ f))]; exact r, fun b xs r => ?_, fun b xs r => ?_, ⟨[], by simp⟩⟩, rfl⟩
  · rw [upd_ne (fun z => by subst z; rw [r] at hm; exact hm)]
    exact r
  · rw [upd_ne (fun z => by subst z; rw [r] at hm; exact hm)]
    exact r
theorem hr_put (q : HR mg w h H) {n : Nat} {a : Addr} {ho : HO} {o o' : O} (hn : h[n]? = some o) (ha : w.m[n]? = some a) (hF : ¬ w.F a) (hm : Mu (H a)) (hob : OR mg w (upd H a ho) a o') : HR mg w (h.set n o') (upd H a ho) := by
  have l := later_put (o' := o') (ho := ho) q hn ha hF hm
  refine ⟨by rw [List.length_set]; exact q.len, q.nd, fun b z => ?_, fun i o1 b e1 e2 => ?_, fun x hx => ?_, tabs_upd q.tb (.inr hm), fun b ps z => by rw [upd_ne (show b ≠ a from fun y => hF (y ▸ z))]; exact q.nt b ps z, q.pm⟩
  · obtain ⟨u, e⟩ := q.fz b z
    exact ⟨u, by rw [upd_ne (show b ≠ a from fun y => hF (y ▸ z))]; exact e⟩
  · by_cases hi : n = i
    · subst hi
      rw [ha] at e2
      cases e2
      rw [List.getElem?_set_self (List.getElem?_eq_some_iff.mp hn).1] at e1
      cases e1
      exact hob
    · rw [List.getElem?_set_ne hi] at e1
      have hne : b ≠ a := fun z => by
        subst z
        obtain ⟨h1, e1'⟩ := List.getElem?_eq_some_iff.mp ha
        obtain ⟨h2, e2'⟩ := List.getElem?_eq_some_iff.mp e2
        exact hi ((List.getElem_inj q.nd).mp (e1'.trans e2'.symm))
      exact (q.ob i o1 b e1 e2).mono l Iff.rfl (.inl (upd_ne hne))
  · obtain ⟨e1, e2, e3⟩ := q.pr x hx
    exact ⟨by rw [upd_ne (show x.1 ≠ a from fun z => e3 (z ▸ List.mem_of_getElem? ha))]; exact e1, e2, e3⟩
/-- the object number n is frozen -/
theorem hr_gone (q : HR mg w h H) {n : Nat} {a : Addr} {o : O} (hn : h[n]? = some o) (ha : w.m[n]? = some a) : HR mg (w.frz a) (h.set n .gone) H := by
  refine ⟨by rw [List.length_set]; exact q.len, q.nd, fun b z => ?_, fun i o1 b e1 e2 => ?_, fun x hx => ?_, q.tb, fun b ps z => ?_, q.pm⟩
  · rcases z with rfl | z
    · exact (q.ob n o b hn ha).some q
    · exact q.fz b z
  · by_cases hi : n = i
    · subst hi
      rw [List.getElem?_set_self (List.getElem?_eq_some_iff.mp hn).1] at e1
      have e2' : w.m[n]? = some b := e2
      rw [ha] at e2'
      cases e1
      cases e2'
      exact .inl rfl
    · rw [List.getElem?_set_ne hi] at e1
      have hne : b ≠ a := fun z => by
        subst z
        obtain ⟨h1, e1'⟩ := List.getElem?_eq_some_iff.mp ha
        obtain ⟨h2, e2'⟩ := List.getElem?_eq_some_iff.mp (show w.m[i]? = some b from e2)
        exact hi ((List.getElem_inj q.nd).mp (e1'.trans e2'.symm))
      exact (q.ob i o1 b e1 e2).mono (later_frz q) ⟨fun z => z.resolve_left hne, .inr⟩ (.inl rfl)
  · obtain ⟨e1, e2, e3⟩ := q.pr x hx
    exact ⟨e1, fun z => z.elim (fun y => e3 (y ▸ List.mem_of_getElem? ha)) e2, e3⟩
  · rcases z with rfl | z
    · have r := q.ob n o b hn ha
      cases o with
      | lst ds => obtain ⟨_, vs, e, _⟩ := r; intro z; rw [e] at z; cases z
      | dct kds => obtain ⟨_, vs, e, _⟩ := r; intro z; rw [e] at z; cases z
      | ins c fds => obtain ⟨_, C, dx, fs, e, _⟩ := r; intro z; rw [e] at z; cases z
      | gone => exact q.nt b ps r
    · exact q.nt b ps z
/-- what is held does not matter to values -/
theorem lv_of (hm : w'.m = w.m) (hF : ∀ a, w.F a → w'.F a) : Lv w H w' H := ⟨hF, fun _ _ _ r => r, fun _ _ _ r => r, fun _ _ _ _ r => r, fun _ _ r => r, fun _ _ r => r, ⟨[], by simp [hm]⟩⟩
theorem hr_P (q : HR mg w h H) (hm : w'.m = w.m) (hF : w'.F = w.F) (hP : ∀ p ∈ w'.P, H p.1 = some p.2 ∧ ¬ w.F p.1 ∧ p.1 ∉ w.m) (hM : ∀ p ∈ w'.P, Mu (some p.2)) : HR mg w' h H :=
  ⟨by rw [hm]; exact q.len, by rw [hm]; exact q.nd, fun a z => q.fz a (by rw [hF] at z; exact z), fun i o a e1 e2 => by
    rw [hm] at e2
    exact (q.ob i o a e1 e2).mono0 (lv_of hm fun a z => by rw [hF]; exact z) (by rw [hF]) (.inl rfl), fun p hp => by rw [hm, hF]; exact hP p hp, q.tb, fun a ps z => q.nt a ps (by rw [hF] at z; exact z), hM⟩
/-- a new thing is held -/
theorem hr_hold (q : HR mg w h H) {p : Addr} {o : HO} (hp : H p = none) (ho : Mu (some o) := by trivial) : HR mg (w.hold p o) h (upd H p o) :=
  hr_P (hr_new (o := o) q hp) rfl rfl (hM := fun x hx => by
    rcases List.mem_cons.mp (show x ∈ (p, o) :: w.P from hx) with e | hx
    · subst e; exact ho
    · exact q.pm x hx) fun x hx => by
    rcases List.mem_cons.mp (show x ∈ (p, o) :: w.P from hx) with e | hx
    · subst e
      exact ⟨upd_same, fun z => q.nF hp z, fun z => q.nm hp z⟩
    · exact (hr_new (o := o) q hp).pr x hx
/-- what is held is changed -/
theorem hr_rehold {p : Addr} {o : HO} (q : HR mg (w.hold p o) h H) (hmu : Mu (H p)) (hne : ∀ x ∈ w.P, x.1 ≠ p) (o' : HO) (ho' : Mu (some o') := by trivial) : HR mg (w.hold p o') h (upd H p o') ∧ Lv w H w (upd H p o') := by
  obtain ⟨e1, e2, e3⟩ := q.pr (p, o) (List.mem_cons_self ..)
  have e2 : ¬ w.F p := e2
  have e3 : p ∉ w.m := e3
  have l : Lv w H w (upd H p o') := ⟨fun _ z => z, fun b u f r => by rw [upd_ne (show b ≠ p from fun z => e2 (z ▸ f))]; exact r,
    fun b o u r => by rw [upd_ne (fun z => by subst z; rw [r] at hmu; exact hmu)]; exact r, fun b o' _ f r => by rw [upd_ne (show b ≠ p from fun z => e2 (z ▸ f))]; exact r,
    fun b xs r => by rw [upd_ne (fun z => by subst z; rw [r] at hmu; exact hmu)]; exact r, fun b xs r => by rw [upd_ne (fun z => by subst z; rw [r] at hmu; exact hmu)]; exact r, ⟨[], by simp⟩⟩
  refine ⟨⟨q.len, q.nd, fun b z => ?_, fun i o1 b x1 x2 => ?_, fun x hx => ?_, tabs_upd q.tb (.inr hmu), fun b ps z => by rw [upd_ne (show b ≠ p from fun y => e2 (y ▸ z))]; exact q.nt b ps z, fun x hx => by
    rcases List.mem_cons.mp (show x ∈ (p, o') :: w.P from hx) with e | hx
    · subst e; exact ho'
    · exact q.pm x (List.mem_cons_of_mem _ hx)⟩, l⟩
  · obtain ⟨u, e⟩ := q.fz b z
    exact ⟨u, by rw [upd_ne (show b ≠ p from fun y => e2 (y ▸ z))]; exact e⟩
  · have hb : b ≠ p := fun z => e3 (z ▸ List.mem_of_getElem? (show w.m[i]? = some b from x2))
    have r : OR mg w H b o1 := OR.mono0 (w := w.hold p o) (w' := w) (lv_of rfl fun _ z => z) Iff.rfl (.inl rfl) (q.ob i o1 b x1 x2)
    exact OR.mono0 (w := w) (w' := w.hold p o') (lv_of rfl fun _ z => z) Iff.rfl (.inl rfl) (r.mono0 l Iff.rfl (.inl (upd_ne hb)))
  · rcases List.mem_cons.mp (show x ∈ (p, o') :: w.P from hx) with z | hx
    · subst z
      exact ⟨upd_same, e2, e3⟩
    · obtain ⟨k1, k2, k3⟩ := q.pr x (List.mem_cons_of_mem _ hx)
      exact ⟨by rw [upd_ne (hne x hx)]; exact k1, k2, k3⟩
/-- .. and let go -/
theorem hr_let {p : Addr} {o : HO} (q : HR mg (w.hold p o) h H) : HR mg w h H := hr_P q rfl rfl (fun x hx => q.pr x (List.mem_cons_of_mem _ hx)) fun x hx => q.pm x (List.mem_cons_of_mem _ hx)
end
end Bx
namespace Bx
open PySem PySem.Spec PyProof.Rows L2

/-- an exception of the class named c with the fields ds -/
def XR (g : Gx) (w : Wd) (H : Hp) (c : Str) (ds : List D) (C : Addr) (d : Option Addr) : Prop :=
  g.mg c = some (.ref C) ∧ ((ds = [] ∧ d = none) ∨ ∃ a fs, d = some a ∧ H a = some (.xd fs) ∧ fs.map (·.1) = ds.map (fun _ => fldOf c) ∧ RVs g w H ds (fs.map (·.2)))

def OKg {α β : Type} (g : Gx) (R : Wd → Hp → α → β → Prop) (w : Wd) (H : Hp) (E : XK) (Q : β → Hp → Prop) : Res α → Prop
  | .ok a h => ∀ w' H' b, Later w H w' H' → HR g w' h H' → R w' H' a b → Q b H'
  | .exc c ds h => ∀ w' H' C d, Later w H w' H' → HR g w' h H' → XR g w' H' c ds C d → E (.ref C) d H'
  | .bad => False

section
variable {α β α' β' : Type} {g : Gx} {R : Wd → Hp → α → β → Prop} {R' : Wd → Hp → α' → β' → Prop} {w w' : Wd} {H H' : Hp} {E : XK} {Q Q' : β → Hp → Prop} {r : Res α}
theorem OKg.mono (l : Later w H w' H') (o : OKg g R w H E Q r) : OKg g R w' H' E Q r := by
  cases r with
  | ok a h => exact fun w2 H2 b l2 => o w2 H2 b (l.trans l2)
  | exc c ds h => exact fun w2 H2 C d l2 => o w2 H2 C d (l.trans l2)
  | bad => exact o
theorem OKg.imp (o : OKg g R w H E Q r) (hq : ∀ b H', Q b H' → Q' b H') : OKg g R w H E Q' r := by
  cases r with
  | ok a h => exact fun w2 H2 b l2 hr rv => hq b H2 (o w2 H2 b l2 hr rv)
  | exc c ds h => exact o
  | bad => exact o
theorem OKg.bind {f : α → Hh → Res α'} {Q2 : β' → Hp → Prop} (o : OKg g R' w H E Q2 (r.bind f)) :
    OKg g R w H E (fun b H1 => ∃ w1 a h1, Later w H w1 H1 ∧ HR g w1 h1 H1 ∧ R w1 H1 a b ∧ OKg g R' w1 H1 E Q2 (f a h1)) r := by
  cases r with
  | ok a h => exact fun w2 H2 b l2 hr rv => ⟨w2, a, h, l2, hr, rv, OKg.mono l2 o⟩
  | exc c ds h => exact o
  | bad => exact o
end

/-- what is wished for, at these slots -/
abbrev wAt (W : WX) (σ : L2.St) : XK := fun c d H => W c d σ H
section
variable (g : Gx) (W : WX)
def tI (f : Rho → Hh → Res D) : TE := fun σ H Q => ∃ w ρ h, SR g w ρ h σ H ∧ OKg g (RV g) w H (wAt W σ) Q (f ρ h)
def tT (f : Rho → Hh → Res Bool) : TT := fun σ H Q => ∃ w ρ h, SR g w ρ h σ H ∧ OKg g (fun _ _ a b => a = b) w H (wAt W σ) Q (f ρ h)
def tL (f : Rho → Hh → Res (List D)) : TA := fun σ H Q => ∃ w ρ h, SR g w ρ h σ H ∧ OKg g (RVs g) w H (wAt W σ) Q (f ρ h)
end
section
variable (g : Gx) (E : XK)
abbrev RB : Wd → Hp → Bool → Bool → Prop := fun _ _ a b => a = b
def rD (f : D → D → Hh → Res D) : R2 := fun x y H Q => ∃ w h a b, HR g w h H ∧ RV g w H a x ∧ RV g w H b y ∧ OKg g (RV g) w H E Q (f a b h)
def rU1 (f : D → Hh → Res D) : V → Hp → VK → Prop := fun x H Q => ∃ w h a, HR g w h H ∧ RV g w H a x ∧ OKg g (RV g) w H E Q (f a h)
def rC (f : List D → Hh → Res D) : List V → Hp → VK → Prop := fun xs H Q => ∃ w h ds, HR g w h H ∧ RVs g w H ds xs ∧ OKg g (RV g) w H E Q (f ds h)
def rM (f : D → List D → Hh → Res D) : V → List V → Hp → VK → Prop := fun x xs H Q => ∃ w h a ds, HR g w h H ∧ RV g w H a x ∧ RVs g w H ds xs ∧ OKg g (RV g) w H E Q (f a ds h)
end

section
variable {g : Gx} {E : XK} {X : Cx} {w : Wd} {H : Hp} {h : Hh} {Q : VK}
theorem OKg.keep {a : D} {x : V} (o : OKg g (RV g) w H E Q (.ok a h)) (hr : HR g w h H) (rv : RV g w H a x) : Q x H := o w H x (Later.refl w H) hr rv
theorem OKg.tup {ds : List D} {vs : List V} (o : OKg g (RV g) w H E Q (.ok (.tup ds) h)) (hr : HR g w h H) (rv : RVs g w H ds vs) : ∀ p, H p = none → Q (.ref p) (upd H p (.tup vs)) := fun p hp =>
  o w _ (.ref p) (later_new hr hp) (hr_new hr hp) (.tup upd_same (rv.mono (later_new hr hp)))
theorem OKg.lst {ds : List D} {vs : List V} (o : OKg g (RV g) w H E Q (.ok (.lst ds) h)) (hr : HR g w h H) (rv : RVs g w H ds vs) : ∀ p, H p = none → Q (.ref p) (upd H p (.lst vs)) := fun p hp =>
  o (w.frz p) _ (.ref p) (later_lay hr hp) (hr_lay hr hp) (.lst upd_same (.inl rfl) (rv.mono (later_lay hr hp)))
/-- a new dict, locked -/
theorem OKg.dct {kds : List (Key × D)} {kvs : List (Key × V)} (o : OKg g (RV g) w H E Q (.ok (.dct kds) h)) (hr : HR g w h H) (ek : kvs.map (·.1) = kds.map (·.1)) (rv : RVs g w H (kds.map (·.2)) (kvs.map (·.2))) : ∀ p ob, H p = none → Q (.ref p) (upd H p (.frz ob (.dK kvs))) := fun p ob hp =>
  o w _ (.ref p) (later_new hr hp) (hr_new hr hp) (.dct upd_same ek (rv.mono (later_new hr hp)))
theorem OKg.nlst {ds : List D} {vs : List V} (o : OKg g (RV g) w H E Q (.ok (.ref h.length) (h ++ [.lst ds]))) (hr : HR g w h H) (rv : RVs g w H ds vs) : ∀ p, H p = none → Q (.ref p) (upd H p (.lst vs)) := fun p hp =>
  o (w.new p) _ (.ref p) (later_add hr hp) (hr_add hr hp ⟨fun z => hr.nF hp z, vs, upd_same, rv.mono (later_add hr hp)⟩) (.ref (by show (w.m ++ [p])[h.length]? = some p; rw [← hr.len]; simp))
theorem OKg.ndct {kds : List (Key × D)} {kvs : List (Key × V)} (o : OKg g (RV g) w H E Q (.ok (.ref h.length) (h ++ [.dct kds]))) (hr : HR g w h H) (ek : kvs.map (·.1) = kds.map (·.1)) (rv : RVs g w H (kds.map (·.2)) (kvs.map (·.2))) : ∀ p, H p = none → Q (.ref p) (upd H p (.dK kvs)) := fun p hp =>
  o (w.new p) _ (.ref p) (later_add hr hp) (hr_add hr hp ⟨fun z => hr.nF hp z, kvs, upd_same, ek, rv.mono (later_add hr hp)⟩) (.ref (by show (w.m ++ [p])[h.length]? = some p; rw [← hr.len]; simp))
/-- the list number n changes -/
theorem OKg.put {n : Nat} {ds ds' : List D} {a : D} {x : V} (o : OKg g (RV g) w H E Q (.ok a (h.set n (.lst ds')))) (hr : HR g w h H) (hn : h[n]? = some (.lst ds)) {p : Addr} (hp : w.m[n]? = some p) {vs' : List V}
    (rv : RVs g w H ds' vs') (rx : RV g w H a x) : Q x (upd H p (.lst vs')) := by
  obtain ⟨nF, vs, e, _⟩ := hr.ob n _ p hn hp
  have mu : Mu (H p) := by rw [e]; trivial
  have l := later_put (o' := .lst ds') (ho := .lst vs') hr hn hp nF mu
  exact o w _ x l (hr_put hr hn hp nF mu ⟨nF, vs', upd_same, rv.mono l⟩) (rx.mono l)
theorem OKg.putD {n : Nat} {kds kds' : List (Key × D)} {a : D} {x : V} (o : OKg g (RV g) w H E Q (.ok a (h.set n (.dct kds')))) (hr : HR g w h H) (hn : h[n]? = some (.dct kds)) {p : Addr} (hp : w.m[n]? = some p) {kvs' : List (Key × V)}
    (ek : kvs'.map (·.1) = kds'.map (·.1)) (rv : RVs g w H (kds'.map (·.2)) (kvs'.map (·.2))) (rx : RV g w H a x) : Q x (upd H p (.dK kvs')) := by
  obtain ⟨nF, vs, e, _⟩ := hr.ob n _ p hn hp
  have mu : Mu (H p) := by rw [e]; trivial
  have l := later_put (o' := .dct kds') (ho := .dK kvs') hr hn hp nF mu
  exact o w _ x l (hr_put hr hn hp nF mu ⟨nF, kvs', upd_same, ek, rv.mono l⟩) (rx.mono l)

/-- the items of a list -/
def asL (h : Hh) : D → Option (List D)
  | .lst ds => some ds
  | .ref n => match h[n]? with | some (.lst ds) => some ds | _ => none
  | _ => none
theorem asL_ok {d : D} {x : V} {ds : List D} (e : asL h d = some ds) (hr : HR g w h H) (r : RV g w H d x) : ∃ a vs, x = .ref a ∧ H a = some (.lst vs) ∧ RVs g w H ds vs := by
  cases r with
  | lst h1 _ t => simp [asL] at e; subst e; exact ⟨_, _, rfl, h1, t⟩
  | @ref n a h1 =>
    simp only [asL] at e
    split at e
    · rename_i e2
      cases e
      obtain ⟨_, vs, e3, t⟩ := hr.ob n _ a e2 h1
      exact ⟨a, vs, rfl, e3, t⟩
    · cases e
  | _ => simp [asL] at e
/-- the items of a list or a tuple -/
def asS (h : Hh) : D → Option (List D)
  | .tup ds => some ds
  | d => asL h d
theorem asS_ok {K : PySem.W.Frag} {d : D} {x : V} {ds : List D} (e : asS h d = some ds) (hr : HR g w h H) (r : RV g w H d x) : ∃ a vs, x = .ref a ∧ (SqL K H a vs ∨ SqT K H a vs) ∧ RVs g w H ds vs := by
  cases d with
  | tup xs =>
    cases r with
    | tup h1 t => simp [asS] at e; subst e; exact ⟨_, _, rfl, .inr (.inl (.inl h1)), t⟩
  | _ =>
    simp only [asS] at e
    obtain ⟨a, vs, e1, e2, t⟩ := asL_ok e hr r
    exact ⟨a, vs, e1, .inl (.inl (.inl e2)), t⟩
theorem rv_tup {ds : List D} {x : V} (r : RV g w H (.tup ds) x) : ∃ a vs, x = .ref a ∧ H a = some (.tup vs) ∧ RVs g w H ds vs := by
  cases r with
  | tup h1 t => exact ⟨_, _, rfl, h1, t⟩
theorem rv_int {i : Int} {x : V} (r : RV g w H (.int i) x) : x = .int i := by cases r; rfl
theorem rv_str {i : Str} {x : V} (r : RV g w H (.str i) x) : x = .str i := by cases r; rfl
theorem rv_bl {i : Bool} {x : V} (r : RV g w H (.bl i) x) : x = .bl i := by cases r; rfl
theorem rv_non {x : V} (r : RV g w H .non x) : x = .non := by cases r; rfl

theorem opr_of {f : Value → Value → Sem Value} {fd : D → D → Hh → Res D}
    (hh : ∀ (w : Wd) (H : Hp) (h : Hh) (a b : D) (x y : V) (Q : VK), HR g w h H → RV g w H a x → RV g w H b y → OKg g (RV g) w H E Q (fd a b h) → ∃ r : R2, OpR X f r ∧ r x y H Q) : OpR X f (rD g E fd) := by
  intro pins s σ H x y v u Q I rx ry ⟨w, h, a, b, hr, ra, rb, o⟩
  obtain ⟨r, hop, q⟩ := hh w H h a b x y Q hr ra rb o
  exact hop pins s σ H x y v u Q I rx ry q

def sz (n : Nat) : Bool := decide (n ≤ sizeLine)
theorem sz_le {n : Nat} (e : sz n = true) : n ≤ sizeLine := of_decide_eq_true e

/-- a + b -/
def addD (a b : D) (h : Hh) : Res D := match a, b with
  | .int i, .int j => .ok (.int (i + j)) h
  | .str i, .str j => if sz (i.length + j.length) then .ok (.str (i ++ j)) h else .bad
  | .tup xs, .tup ys => if sz (xs.length + ys.length) then .ok (.tup (xs ++ ys)) h else .bad
  | a, b => match asL h a, asL h b with
    | some xs, some ys => if sz (xs.length + ys.length) then .ok (.lst (xs ++ ys)) h else .bad
    | _, _ => .bad
theorem add_ok : OpR X (binaryOp .Add) (rD g E addD) := opr_of fun w H h a b x y Q hr ra rb o => by
  unfold addD at o
  split at o
  · cases ra; cases rb
    exact ⟨_, op_add, _, _, rfl, rfl, o.keep hr (.int _)⟩
  · cases ra; cases rb
    split at o
    · exact ⟨_, op_add_str, _, _, rfl, rfl, sz_le ‹_›, o.keep hr (.str _)⟩
    · exact o.elim
  · obtain ⟨p, us, rfl, hp, tu⟩ := rv_tup ra
    obtain ⟨q, vs, rfl, hq, tv⟩ := rv_tup rb
    split at o
    · rename_i hz
      rw [tu.length, tv.length] at hz
      refine ⟨_, op_catA, _, _, _, _, rfl, rfl, .inl (.inl hp), .inl (.inl hq), sz_le hz, fun e => ?_, fun _ e => ?_, fun _ _ => o.tup hr (tu.append tv)⟩
      · subst e
        cases tu
        exact o.keep hr rb
      · subst e
        cases tv
        rw [List.append_nil] at o
        exact o.keep hr ra
    · exact o.elim
  · split at o
    · rename_i e1 e2
      obtain ⟨p, us, rfl, hp, tu⟩ := asL_ok e1 hr ra
      obtain ⟨q, vs, rfl, hq, tv⟩ := asL_ok e2 hr rb
      split at o
      · rename_i hz
        rw [tu.length, tv.length] at hz
        exact ⟨_, op_cat, _, _, _, _, rfl, rfl, hp, hq, sz_le hz, o.lst hr (tu.append tv)⟩
      · exact o.elim
    · exact o.elim
/-- a - b -/
def subD (a b : D) (h : Hh) : Res D := match a, b with
  | .int i, .int j => .ok (.int (i - j)) h
  | _, _ => .bad
theorem sub_ok : OpR X (binaryOp .Sub) (rD g E subD) := opr_of fun w H h a b x y Q hr ra rb o => by
  unfold subD at o
  split at o
  · cases ra; cases rb
    exact ⟨_, op_sub, _, _, rfl, rfl, o.keep hr (.int _)⟩
  · exact o.elim
def small64 (i : Int) : Bool := decide (-(2 ^ 64) < i) && decide (i < 2 ^ 64)
/-- a * b -/
def mulD (a b : D) (h : Hh) : Res D := match a, b with
  | .int i, .int j => if small64 i || small64 j then .ok (.int (i * j)) h else .bad
  | a, .int k => match asL h a with
    | some xs => if decide (-(2 ^ 63) ≤ k) && decide (k < 2 ^ 63) && sz (xs.length * k.toNat) then .ok (.lst (List.replicate k.toNat xs).flatten) h else .bad
    | _ => .bad
  | _, _ => .bad
theorem RVs.rep {ds : List D} {vs : List V} (r : RVs g w H ds vs) : ∀ n : Nat, RVs g w H (List.replicate n ds).flatten (List.replicate n vs).flatten
  | 0 => .nil
  | n + 1 => by
    rw [List.replicate_succ, List.replicate_succ, List.flatten_cons, List.flatten_cons]
    exact r.append (RVs.rep r n)
theorem mul_ok : OpR X (binaryOp .Mult) (rD g E mulD) := opr_of fun w H h a b x y Q hr ra rb o => by
  unfold mulD at o
  split at o
  · cases ra; cases rb
    split at o
    · rename_i hz
      refine ⟨_, op_mul, _, _, rfl, rfl, ?_, o.keep hr (.int _)⟩
      simp only [small64, Bool.or_eq_true, Bool.and_eq_true, decide_eq_true_eq] at hz
      exact hz
    · exact o.elim
  · cases rb
    split at o
    · rename_i e1
      obtain ⟨p, us, rfl, hp, tu⟩ := asL_ok e1 hr ra
      split at o
      · rename_i hz
        simp only [Bool.and_eq_true, decide_eq_true_eq] at hz
        obtain ⟨⟨h1, h2⟩, h3⟩ := hz
        rw [tu.length] at h3
        exact ⟨_, op_rep, _, _, _, rfl, rfl, hp, h1, h2, sz_le h3, o.lst hr (tu.rep _)⟩
      · exact o.elim
    · exact o.elim
  · exact o.elim
/-- a % b, a // b, a ** b -/
def modD (a b : D) (h : Hh) : Res D := match a, b with
  | .int i, .int j => if decide (0 < j) then .ok (.int (i % j)) h else .bad
  | _, _ => .bad
theorem mod_ok : OpR X (binaryOp .Mod) (rD g E modD) := opr_of fun w H h a b x y Q hr ra rb o => by
  unfold modD at o
  split at o
  · cases ra; cases rb
    split at o
    · rename_i hz
      exact ⟨_, op_mod, _, _, rfl, rfl, of_decide_eq_true hz, o.keep hr (.int _)⟩
    · exact o.elim
  · exact o.elim
def fdivD (a b : D) (h : Hh) : Res D := match a, b with
  | .int i, .int j => if decide (0 < j) && decide (j < 1073741824) then .ok (.int (i / j)) h else .bad
  | _, _ => .bad
theorem fdiv_ok : OpR X (binaryOp .FloorDiv) (rD g E fdivD) := opr_of fun w H h a b x y Q hr ra rb o => by
  unfold fdivD at o
  split at o
  · cases ra; cases rb
    split at o
    · rename_i hz
      simp only [Bool.and_eq_true, decide_eq_true_eq] at hz
      exact ⟨_, op_fdiv, _, _, rfl, rfl, hz, o.keep hr (.int _)⟩
    · exact o.elim
  · exact o.elim
def powD (a b : D) (h : Hh) : Res D := match a, b with
  | .int i, .int j => if decide (0 ≤ j) && decide (j ≤ 1000000) && decide (i.natAbs < 2 ^ 64) then .ok (.int (i ^ j.toNat)) h else .bad
  | _, _ => .bad
theorem pow_ok : OpR X (binaryOp .Pow) (rD g E powD) := opr_of fun w H h a b x y Q hr ra rb o => by
  unfold powD at o
  split at o
  · cases ra; cases rb
    split at o
    · rename_i hz
      simp only [Bool.and_eq_true, decide_eq_true_eq] at hz
      obtain ⟨⟨h1, h2⟩, h3⟩ := hz
      exact ⟨_, op_pow, _, _, rfl, rfl, ⟨h1, h2, h3⟩, o.keep hr (.int _)⟩
    · exact o.elim
  · exact o.elim
end
end Bx
namespace Bx
open PySem PySem.Spec PyProof.Rows L2

/-- what a context must bring -/
structure XP (g : Gx) (X : Cx) : Prop where
  K : X.K = g.K
  mg : X.mg = g.mg
  nd : X.N.Nodup
  un : X.A.units + 200 < cLine
  gd : X.A.guards = some []
structure XO (g : Gx) (X : Cx) : Prop extends XP g X where
  calm : X.calm = true

mutual
/-- a value without lists and dicts -/
def flatP : D → Option PyData
  | .non => some .none
  | .bl b => some (.bool b)
  | .int i => some (.int i)
  | .str x => some (.str x)
  | .tup ds => (flatPs ds).map .tuple
  | _ => none
def flatPs : List D → Option (List PyData)
  | [] => some []
  | d :: ds => match flatP d, flatPs ds with | some p, some ps => some (p :: ps) | _, _ => none
end
def keyP : Key → PyData
  | .inl i => .int i
  | .inr x => .str x
/-- the entries of a dict of such values -/
def flatKs : List (Key × D) → Option (List (PyData × PyData))
  | [] => some []
  | kd :: kds => match flatP kd.2, flatKs kds with | some p, some ps => some ((keyP kd.1, p) :: ps) | _, _ => none
mutual
def toP (f : Nat → Option PyData) : D → Option PyData
  | .non => some .none
  | .bl b => some (.bool b)
  | .int i => some (.int i)
  | .str x => some (.str x)
  | .tup ds => (toPs f ds).map .tuple
  | .lst ds => (toPs f ds).map .list
  | .ref n => f n
  | .dct kds => (flatKs kds).map .dict
  | .obj _ _ => none
  | .exn _ _ => none
  | .cau _ _ _ _ => none
  | .scr _ => none
  | .val _ => none
def toPs (f : Nat → Option PyData) : List D → Option (List PyData)
  | [] => some []
  | d :: ds => match toP f d, toPs f ds with | some p, some ps => some (p :: ps) | _, _ => none
end
def refP (h : Hh) : Nat → Nat → Option PyData
  | 0, _ => none
  | k + 1, n => match h[n]? with | some (.lst ds) => (toPs (refP h k) ds).map .list | _ => none
def toD (h : Hh) (d : D) : Option PyData := toP (refP h 4) d
def toDs (h : Hh) (ds : List D) : Option (List PyData) := toPs (refP h 4) ds

mutual
/-- no list within -/
def noL : PyData → Bool
  | .list _ => false
  | .tuple xs => noLs xs
  | _ => true
def noLs : List PyData → Bool
  | [] => true
  | x :: xs => noL x && noLs xs
end
section
variable {g : Gx} {w : Wd} {H : Hp} {h : Hh} {P : Program} {wo : World} {hp : Heap}
theorem lst_at {a : Addr} {vs : List V} (hok : HOk P wo H hp) (e : H a = some (.lst vs)) : ∃ its n, Vals vs its ∧ hp.get? a = some { cls := .type "list", data := .seq its.toArray n } ∧ vs.length ≤ sizeLine := by
  obtain ⟨z, its, n, r, q⟩ := hok a _ e
  exact ⟨its, n, r, q, z⟩
def isAt : PyData → Bool
  | .none | .bool _ | .int _ | .str _ => true
  | _ => false
mutual
/-- what is read, its dicts not the table of modules -/
inductive RdN (hp : Heap) : Value → PyData → Prop
  | leaf {v : Value} {d : PyData} {as : List Addr} : Reads hp v d as → isAt d = true → RdN hp v d
  | dct0 {a : Addr} {o : Obj} {ep : Nat} : hp.get? a = some o → o.ExactDict → o.data = .dict #[] ep → (a == sysModules) = false → RdN hp (.ref a) (.dict [])
  | dctF {a : Addr} {o : Obj} {es : Array DictEntry} {ep : Nat} {x : PyData × PyData} {kvs : List (PyData × PyData)} : hp.get? a = some o → o.ExactDict → o.data = .dict es ep → ReadsAll hp (es.toList.map (·.key)) ((x :: kvs).map (·.1)) [] → ReadsAll hp (es.toList.map (·.val)) ((x :: kvs).map (·.2)) [] → (a == sysModules) = false → RdN hp (.ref a) (.dict (x :: kvs))
  | list {a : Addr} {o : Obj} {vs : Array Value} {n : Nat} {xs : List PyData} {as : List Addr} : hp.get? a = some o → o.cls = .type "list" → o.data = .seq vs n → ReadsAll hp vs.toList xs as → RdNs hp vs.toList xs → RdN hp (.ref a) (.list xs)
  | tuple {a : Addr} {o : Obj} {vs : Array Value} {n : Nat} {xs : List PyData} {as : List Addr} : hp.get? a = some o → o.cls = .type "tuple" → o.data = .seq vs n → ReadsAll hp vs.toList xs as → RdNs hp vs.toList xs → RdN hp (.ref a) (.tuple xs)
inductive RdNs (hp : Heap) : List Value → List PyData → Prop
  | nil : RdNs hp [] []
  | cons {v : Value} {d : PyData} {vs : List Value} {ds : List PyData} : RdN hp v d → RdNs hp vs ds → RdNs hp (v :: vs) (d :: ds)
end
mutual
theorem flatP_reads (hok : HOk P wo H hp) : ∀ {d : D} {p : PyData} {v : V} {u : Value}, flatP d = some p → RV g w H d v → RelV v u → Reads hp u p []
  | .non, p, v, u, e, r, q => by simp only [flatP] at e; cases r; cases e; cases q; exact .none
  | .bl b, p, v, u, e, r, q => by simp only [flatP] at e; cases r; cases e; cases q; exact .bool b
  | .int i, p, v, u, e, r, q => by simp only [flatP] at e; cases r; cases e; obtain ⟨t, rfl⟩ := q; exact .int i t
  | .str x, p, v, u, e, r, q => by simp only [flatP] at e; cases r; cases e; obtain ⟨t, rfl⟩ := q; exact .str x t
  | .tup ds, p, v, u, e, r, q => by
    cases r with
    | tup h1 t =>
      simp only [flatP, Option.map_eq_some_iff] at e
      obtain ⟨ps, e1, rfl⟩ := e
      cases q
      obtain ⟨z, its, rv, o, h2, h3, n, h4⟩ := hok _ _ h1
      exact .tuple h2 h3 h4 (by simpa using flatPs_reads hok e1 t rv)
  | .lst _, p, v, u, e, r, q => by simp [flatP] at e
  | .dct _, p, v, u, e, r, q => by simp [flatP] at e
  | .obj _ _, p, v, u, e, r, q => by simp [flatP] at e
  | .exn _ _, p, v, u, e, r, q => by simp [flatP] at e
  | .cau _ _ _ _, p, v, u, e, r, q => by simp [flatP] at e
  | .ref _, p, v, u, e, r, q => by simp [flatP] at e
  | .scr _, p, v, u, e, r, q => by simp [flatP] at e
  | .val _, p, v, u, e, r, q => by simp [flatP] at e
theorem flatPs_reads (hok : HOk P wo H hp) : ∀ {ds : List D} {ps : List PyData} {vs : List V} {us : List Value}, flatPs ds = some ps → RVs g w H ds vs → Vals vs us → ReadsAll hp us ps []
  | [], ps, vs, us, e, r, q => by simp only [flatPs] at e; cases e; cases r; cases q; exact .nil
  | d :: ds, ps, vs, us, e, r, q => by
    simp only [flatPs] at e
    split at e
    · rename_i e1 e2
      cases e
      cases r with
      | cons r1 r2 =>
        cases q with
        | cons q1 q2 => exact .cons (as := []) (bs := []) (flatP_reads hok e1 r1 q1) (flatPs_reads hok e2 r2 q2)
    · cases e
end
theorem flatKs_reads (hok : HOk P wo H hp) : ∀ {kds : List (Key × D)} {ps : List (PyData × PyData)} {kvs : List (Key × V)} {us : List (Key × Value)} {es : List DictEntry}, flatKs kds = some ps → kvs.map (·.1) = kds.map (·.1) → RVs g w H (kds.map (·.2)) (kvs.map (·.2)) → KV kvs us → Pairs (mixKind P wo) es us →
    ReadsAll hp (es.map (·.key)) (ps.map (·.1)) [] ∧ ReadsAll hp (es.map (·.val)) (ps.map (·.2)) []
  | [], ps, kvs, us, es, e, ek, r, kv, pr => by
    simp only [flatKs] at e
    cases e
    have e2 : kvs = [] := by simpa using ek
    subst e2
    cases kv
    cases pr
    exact ⟨.nil, .nil⟩
  | kd :: kds, ps, kvs, us, es, e, ek, r, kv, pr => by
    simp only [flatKs] at e
    split at e
    · rename_i e1 e2
      cases e
      cases kvs with
      | nil => simp at ek
      | cons k kvs =>
        simp only [List.map_cons, List.cons.injEq] at ek
        cases r with
        | cons r1 r2 =>
          cases kv with
          | cons q1 q2 =>
            cases pr with
            | @cons en b2 es2 us2 p1 p2 p3 =>
              obtain ⟨i1, i2⟩ := flatKs_reads hok e2 ek.2 r2 q2 p3
              have hv := flatP_reads hok e1 r1 q1.2
              refine ⟨.cons (as := []) (bs := []) ?_ i1, .cons (as := []) (bs := []) ?_ i2⟩
              · have p1' : keyIs kd.1 en.key = true := by rw [← ek.1, q1.1]; exact p1
                rcases keyIs_shape p1' with ⟨i, t, e3, e4⟩ | ⟨x, t, e3, e4⟩
                · show Reads hp en.key (keyP kd.1) []
                  rw [e3, e4]; exact .int i t
                · show Reads hp en.key (keyP kd.1) []
                  rw [e3, e4]; exact .str x t
              · show Reads hp en.val _ []
                rw [p2]; exact hv
    · cases e
mutual
theorem toP_reads {f : Nat → Option PyData} (hok : HOk P wo H hp) (hf : ∀ n q a, f n = some q → w.m[n]? = some a → ∃ as, Reads hp (.ref a) q as ∧ RdN hp (.ref a) q) :
    ∀ {d : D} {p : PyData} {v : V} {u : Value}, toP f d = some p → RV g w H d v → RelV v u → ∃ as, Reads hp u p as ∧ RdN hp u p
  | .non, p, v, u, e, r, q => by cases r; cases e; cases q; exact ⟨_, .none, .leaf .none rfl⟩
  | .bl b, p, v, u, e, r, q => by cases r; cases e; cases q; exact ⟨_, .bool b, .leaf (.bool b) rfl⟩
  | .int i, p, v, u, e, r, q => by cases r; cases e; obtain ⟨t, rfl⟩ := q; exact ⟨_, .int i t, .leaf (.int i t) rfl⟩
  | .str x, p, v, u, e, r, q => by cases r; cases e; obtain ⟨t, rfl⟩ := q; exact ⟨_, .str x t, .leaf (.str x t) rfl⟩
  | .tup ds, p, v, u, e, r, q => by
    cases r with
    | tup h1 t =>
      simp only [toP, Option.map_eq_some_iff] at e
      obtain ⟨ps, e1, rfl⟩ := e
      cases q
      obtain ⟨z, its, rv, o, h2, h3, n, h4⟩ := hok _ _ h1
      obtain ⟨as, rs, hn⟩ := toPs_reads hok hf e1 t rv
      exact ⟨_, .tuple h2 h3 h4 (by simpa using rs), .tuple h2 h3 h4 (by simpa using rs) (by simpa using hn)⟩
  | .lst ds, p, v, u, e, r, q => by
    cases r with
    | lst h1 _ t =>
      simp only [toP, Option.map_eq_some_iff] at e
      obtain ⟨ps, e1, rfl⟩ := e
      cases q
      obtain ⟨z, its, n, rv, h2⟩ := hok _ _ h1
      obtain ⟨as, rs, hn⟩ := toPs_reads hok hf e1 t rv
      exact ⟨_, .list h2 rfl rfl (by simpa using rs), .list h2 rfl rfl (by simpa using rs) (by simpa using hn)⟩
  | .dct kds, p, v, u, e, r, q => by
    cases r with
    | @dct a ob kvs _ h1' e1 t =>
      have h1 : Rd H a (.dK kvs) := .inr ⟨ob, h1'⟩
      simp only [toP, Option.map_eq_some_iff] at e
      obtain ⟨ps, e0, rfl⟩ := e
      cases q
      obtain ⟨z, hs, vs, kv, o, es, ep, h2, h3, h4, h5⟩ := h1.ok hok
      obtain ⟨i1, i2⟩ := flatKs_reads hok e0 e1 t kv h5.2.1
      have rd : Reads hp (.ref a) (.dict ps) (a :: [] ++ []) := .dict h2 h3.1 h4 i1 i2
      cases ps with
      | nil =>
        have h6 : es.toList = [] := by
          cases hh : es.toList with
          | nil => rfl
          | cons y ys => rw [hh] at i1; cases i1
        have h7 : es = #[] := by cases es with | mk l => simp at h6; rw [h6]
        subst h7
        exact ⟨_, rd, .dct0 h2 h3 h4 hs⟩
      | cons x xs => exact ⟨_, rd, .dctF h2 h3 h4 i1 i2 hs⟩
  | .ref n, p, v, u, e, r, q => by
    cases r with
    | ref h1 =>
      cases q
      simp only [toP] at e
      obtain ⟨as, x, y⟩ := hf n p _ e h1
      exact ⟨as, x, y⟩
  | .obj _ _, p, v, u, e, r, q => by simp [toP] at e
  | .exn _ _, p, v, u, e, r, q => by simp [toP] at e
  | .cau _ _ _ _, p, v, u, e, r, q => by simp [toP] at e
  | .scr _, p, v, u, e, r, q => by simp [toP] at e
  | .val _, p, v, u, e, r, q => by simp [toP] at e
theorem toPs_reads {f : Nat → Option PyData} (hok : HOk P wo H hp) (hf : ∀ n q a, f n = some q → w.m[n]? = some a → ∃ as, Reads hp (.ref a) q as ∧ RdN hp (.ref a) q) :
    ∀ {ds : List D} {ps : List PyData} {vs : List V} {us : List Value}, toPs f ds = some ps → RVs g w H ds vs → Vals vs us → ∃ as, ReadsAll hp us ps as ∧ RdNs hp us ps
  | [], ps, vs, us, e, r, q => by simp only [toPs] at e; cases e; cases r; cases q; exact ⟨_, .nil, .nil⟩
  | d :: ds, ps, vs, us, e, r, q => by
    simp only [toPs] at e
    split at e
    · rename_i e1 e2
      cases e
      cases r with
      | cons r1 r2 =>
        cases q with
        | cons q1 q2 =>
          obtain ⟨as, x, n1⟩ := toP_reads hok hf e1 r1 q1
          obtain ⟨bs, y, n2⟩ := toPs_reads hok hf e2 r2 q2
          exact ⟨_, .cons x y, .cons n1 n2⟩
    · cases e
end
theorem refP_reads (hok : HOk P wo H hp) (hr : HR g w h H) : ∀ (k n : Nat) (q : PyData) (a : Addr), refP h k n = some q → w.m[n]? = some a → ∃ as, Reads hp (.ref a) q as ∧ RdN hp (.ref a) q
  | 0, _, _, _, e, _ => by simp [refP] at e
  | k + 1, n, q, a, e, ea => by
    simp only [refP] at e
    split at e
    · rename_i e1
      simp only [Option.map_eq_some_iff] at e
      obtain ⟨ps, e2, rfl⟩ := e
      obtain ⟨_, vs, e3, t⟩ := hr.ob n _ a e1 ea
      obtain ⟨z, its, n, rv, h2⟩ := hok _ _ e3
      obtain ⟨as, rs, hn⟩ := toPs_reads hok (refP_reads hok hr k) e2 t rv
      exact ⟨_, .list h2 rfl rfl (by simpa using rs), .list h2 rfl rfl (by simpa using rs) (by simpa using hn)⟩
    · cases e
theorem toD_reads' (hok : HOk P wo H hp) (hr : HR g w h H) {d : D} {p : PyData} {v : V} {u : Value} (e : toD h d = some p) (r : RV g w H d v) (q : RelV v u) : ∃ as, Reads hp u p as ∧ RdN hp u p :=
  toP_reads hok (refP_reads hok hr 4) e r q
theorem toD_reads (hok : HOk P wo H hp) (hr : HR g w h H) {d : D} {p : PyData} {v : V} {u : Value} (e : toD h d = some p) (r : RV g w H d v) (q : RelV v u) : ∃ as, Reads hp u p as := by
  obtain ⟨as, x, _⟩ := toD_reads' hok hr e r q
  exact ⟨as, x⟩
theorem toDs_reads (hok : HOk P wo H hp) (hr : HR g w h H) {ds : List D} {ps : List PyData} {vs : List V} {us : List Value} (e : toDs h ds = some ps) (r : RVs g w H ds vs) (q : Vals vs us) : ∃ as, ReadsAll hp us ps as := by
  obtain ⟨as, x, _⟩ := toPs_reads hok (refP_reads hok hr 4) e r q
  exact ⟨as, x⟩
end

/-- data that may be compared -/
def dOk (p : PyData) : Bool := p.plain && decide (p.depth ≤ 150)

section
variable {g : Gx} {E : XK} {X : Cx} {w : Wd} {H : Hp} {h : Hh} {Q : VK}
theorem fin_b {pins : List (Addr × Obj)} {σ : L2.St} {s : Shared} {b : Bool} (I : Inv X pins σ H s) (hr : HR g w h H) (o : OKg g (RV g) w H E Q (.ok (.bl b) h)) : EP X pins σ Q (.bool b) s := ⟨.bl b, H, I, rfl, o.keep hr (.bl b)⟩
/-- two lists of different lengths -/
def difL (a b : D) (h : Hh) : Bool := match asL h a, asL h b with
  | some xs, some ys => decide (xs.length ≠ ys.length)
  | _, _ => false
mutual
/-- the same, dicts only where they are empty -/
def sameP : PyData → PyData → Bool
  | .none, .none => true
  | .bool a, .bool b => decide (a = b)
  | .int a, .int b => decide (a = b)
  | .str a, .str b => decide (a = b)
  | .list xs, .list ys => samePs xs ys
  | .tuple xs, .tuple ys => samePs xs ys
  | .dict a, .dict b => a.isEmpty && b.isEmpty
  | _, _ => false
def samePs : List PyData → List PyData → Bool
  | [], [] => true
  | x :: xs, y :: ys => sameP x y && samePs xs ys
  | _, _ => false
end
def isLs : PyData → Bool
  | .list _ => true
  | _ => false
open PySem.W (EqTree) in
section
variable {P : Program} {wo : World} {s : Shared}
theorem atom_tree {v y : Value} {p q : PyData} {as bs : List Addr} {n : Nat} (h : sameP p q = true) (r : Reads s.heap v p as) (t : isAt p = true) (r2 : Reads s.heap y q bs) : EqTree P wo s n v y true := by
  have e : p = q ∧ p.plain = true ∧ p.depth = 0 := by
    cases p with
    | none => cases q <;> simp [sameP] at h <;> exact ⟨rfl, rfl, rfl⟩
    | bool a => cases q <;> simp [sameP] at h; subst h; exact ⟨rfl, rfl, rfl⟩
    | int a => cases q <;> simp [sameP] at h; subst h; exact ⟨rfl, rfl, rfl⟩
    | str a => cases q <;> simp [sameP] at h; subst h; exact ⟨rfl, rfl, rfl⟩
    | _ => cases t
  obtain ⟨rfl, e2, e3⟩ := e
  refine .leaf fun A hu => ?_
  have z := SeqAt.eqAt_plain p p A s v y as bs r r2 e2 e2 (by rw [e3]; omega)
  rw [SeqAt.eqv_refl_plain p e2] at z
  exact z
theorem dict0_of {a : Addr} {o : Obj} {ep : Nat} (h1 : s.heap.get? a = some o) (h2 : o.ExactDict) (h3 : o.data = .dict #[] ep) : s.heap.DictOf (strKind P wo) a [] :=
  ⟨o, #[], ep, h1, h2, h3, fun e he => by simp at he, .nil, by simp⟩
mutual
theorem same_tree : ∀ {p q : PyData} {v y : Value} {n : Nat}, RdN s.heap v p → RdN s.heap y q → sameP p q = true → p.depth ≤ n → EqTree P wo s n v y true
  | _, _, _, _, _, .leaf r t, r2, h, _ => by
    cases r2 with
    | leaf r2 _ => exact atom_tree h r t r2
    | dct0 _ _ _ _ => cases r <;> simp [isAt, sameP] at t h
    | dctF _ _ _ _ _ _ => cases r <;> simp [isAt, sameP] at t h
    | list _ _ _ _ _ => cases r <;> simp [isAt, sameP] at t h
    | tuple _ _ _ _ _ => cases r <;> simp [isAt, sameP] at t h
  | _, _, _, _, n, .dct0 (a := a) h1 h2 h3 h4, r2, h, hn => by
    cases r2 with
    | leaf r2 t => cases r2 <;> simp [isAt, sameP] at t h
    | @dct0 b _ _ k1 k2 k3 k4 =>
      by_cases e : a = b
      · subst e; exact .same
      · cases n with
        | zero => simp [PyData.depth] at hn
        | succ n => exact .dicts (e := fun _ => true) e h4 k4 (dict0_of h1 h2 h3) (dict0_of k1 k2 k3) (fun k v y hm => by simp at hm)
    | dctF _ _ _ _ _ _ => simp [sameP] at h
    | list _ _ _ _ _ => simp [sameP] at h
    | tuple _ _ _ _ _ => simp [sameP] at h
  | _, _, _, _, n, .dctF _ _ _ _ _ _, r2, h, hn => by
    exfalso
    revert h
    cases r2 with
    | leaf r2 t => cases r2 <;> simp [isAt, sameP] at t ⊢
    | _ => simp [sameP]
  | _, _, _, _, n, .list (a := a) (vs := vs) (xs := xs) h1 h2 h3 h4 h5, r2, h, hn => by
    cases r2 with
    | leaf r2 t => cases r2 <;> simp [isAt, sameP] at t h
    | dct0 _ _ _ _ => simp [sameP] at h
    | dctF _ _ _ _ _ _ => simp [sameP] at h
    | @list b _ vs2 n2 ys _ k1 k2 k3 k4 k5 =>
      by_cases e : a = b
      · subst e; exact .same
      · cases n with
        | zero => simp [PyData.depth] at hn
        | succ n =>
          have z := same_trees (n := n) h5 k5 (by simpa [sameP] using h) (by simp only [PyData.depth] at hn; omega)
          have t := EqTree.lists (prog := P) (w := wo) (s := s) (n := n) (e := fun _ => true) e ⟨_, h1, h2, _, h3⟩ ⟨_, k1, k2, _, k3⟩ (by simpa using z.1) (fun j i1 i2 => z.2 j i1 i2)
          rw [show ((List.range vs.size).all fun _ => true) = true by simp] at t
          exact t
    | tuple _ _ _ _ _ => simp [sameP] at h
  | _, _, _, _, n, .tuple (a := a) (vs := vs) (xs := xs) h1 h2 h3 h4 h5, r2, h, hn => by
    cases r2 with
    | leaf r2 t => cases r2 <;> simp [isAt, sameP] at t h
    | dct0 _ _ _ _ => simp [sameP] at h
    | dctF _ _ _ _ _ _ => simp [sameP] at h
    | list _ _ _ _ _ => simp [sameP] at h
    | @tuple b _ vs2 n2 ys _ k1 k2 k3 k4 k5 =>
      by_cases e : a = b
      · subst e; exact .same
      · cases n with
        | zero => simp [PyData.depth] at hn
        | succ n =>
          have z := same_trees (n := n) h5 k5 (by simpa [sameP] using h) (by simp only [PyData.depth] at hn; omega)
          have t := EqTree.tuples (prog := P) (w := wo) (s := s) (n := n) (e := fun _ => true) e ⟨_, h1, h2, _, h3⟩ ⟨_, k1, k2, _, k3⟩ (fun j i1 i2 => z.2 j i1 i2)
          have sz : vs.size = vs2.size := by simpa using z.1
          rw [show ((List.range (min vs.size vs2.size)).all fun _ => true) = true by simp, sz] at t
          simpa using t
theorem same_trees : ∀ {xs ys : List PyData} {vs us : List Value} {n : Nat}, RdNs s.heap vs xs → RdNs s.heap us ys → samePs xs ys = true → PyData.depthAll xs ≤ n → vs.length = us.length ∧ ∀ j (h1 : j < vs.length) (h2 : j < us.length), EqTree P wo s n vs[j] us[j] true
  | _, _, _, _, _, .nil, .nil, _, _ => ⟨rfl, fun j h1 => by simp at h1⟩
  | _, _, _, _, _, .nil, .cons _ _, h, _ => by simp [samePs] at h
  | _, _, _, _, _, .cons _ _, .nil, h, _ => by simp [samePs] at h
  | _, _, _, _, n, .cons a r, .cons b t, h, hn => by
    simp only [samePs, Bool.and_eq_true] at h
    simp only [PyData.depthAll] at hn
    have z1 := same_tree (n := n) a b h.1 (by omega)
    have z2 := same_trees (n := n) r t h.2 (by omega)
    refine ⟨by simp [z2.1], fun j h1 h2 => ?_⟩
    cases j with
    | zero => exact z1
    | succ j => exact z2.2 j (by simpa using h1) (by simpa using h2)
end
end
/-- a == b -/
def eqD (a b : D) (h : Hh) : Res D := if difL a b h then .ok (.bl false) h else match toD h a, toD h b with
  | some p, some q => if dOk p && dOk q then .ok (.bl (PyData.eqv p q)) h else if isLs p && (sameP p q && decide (p.depth ≤ 150)) then .ok (.bl true) h else .bad
  | _, _ => .bad
def neD (a b : D) (h : Hh) : Res D := if difL a b h then .ok (.bl true) h else match toD h a, toD h b with
  | some p, some q => if dOk p && dOk q then .ok (.bl (!PyData.eqv p q)) h else .bad
  | _, _ => .bad
theorem dep {u a b : Nat} (h : u + 200 < cLine) (ha : a ≤ 150) : u + min a b < cLine := by
  have := Nat.min_le_left a b
  omega
theorem difL_at {pins : List (Addr × Obj)} {σ : L2.St} {s : Shared} {a b : D} {x y : V} {v u : Value} (I : Inv X pins σ H s) (e : difL a b h = true) (hr : HR g w h H) (ra : RV g w H a x) (rb : RV g w H b y) (rx : RelV x v) (ry : RelV y u) :
    ∃ l l' its its', v = .ref l ∧ u = .ref l' ∧ s.heap.IsList l its ∧ s.heap.IsList l' its' ∧ (its.size != its'.size) = true := by
  unfold difL at e
  split at e
  · rename_i xs ys e1 e2
    obtain ⟨l, vs, rfl, q1, t1⟩ := asL_ok e1 hr ra
    obtain ⟨l', vs', rfl, q2, t2⟩ := asL_ok e2 hr rb
    cases rx
    cases ry
    obtain ⟨its, n, r1, g1, _⟩ := lst_at I.hok q1
    obtain ⟨its', n', r2, g2, _⟩ := lst_at I.hok q2
    refine ⟨l, l', its.toArray, its'.toArray, rfl, rfl, ⟨_, g1, rfl, _, rfl⟩, ⟨_, g2, rfl, _, rfl⟩, ?_⟩
    have z1 := t1.length
    have z2 := t2.length
    have z3 := r1.length
    have z4 := r2.length
    simp only [decide_eq_true_eq] at e
    simp only [List.size_toArray, bne_iff_ne, ne_eq]
    omega
  · cases e
theorem eq_ok (xo : XP g X) : OpR X (compareOp .Eq) (rD g E eqD) := by
  intro pins s σ H x y v u Q I rx ry ⟨w, h, a, b, hr, ra, rb, o⟩
  unfold eqD at o
  split at o
  · rename_i hd
    obtain ⟨l, l', its, its', rfl, rfl, i1, i2, i3⟩ := difL_at I hd hr ra rb rx ry
    exact SeqAt.RcAt.lists_lengths i1 i2 i3 (by have := xo.un; omega) _ _ _ _ (fin_b I hr o)
  split at o
  · rename_i p q e1 e2
    split at o
    · rename_i hz
      simp only [dOk, Bool.and_eq_true, decide_eq_true_eq] at hz
      obtain ⟨as, r1⟩ := toD_reads I.hok hr e1 ra rx
      obtain ⟨bs, r2⟩ := toD_reads I.hok hr e2 rb ry
      exact SeqAt.eq_plain r1 r2 hz.1.1 hz.2.1 (dep xo.un hz.1.2) (fin_b I hr o)
    · split at o
      · rename_i hz
        simp only [Bool.and_eq_true, decide_eq_true_eq] at hz
        obtain ⟨hl, hs, hd⟩ := hz
        obtain ⟨as, _, n1⟩ := toD_reads' I.hok hr e1 ra rx
        obtain ⟨bs, _, n2⟩ := toD_reads' I.hok hr e2 rb ry
        have hun := xo.un
        cases n1 with
        | leaf r t => cases r <;> simp [isAt, isLs] at t hl
        | dct0 _ _ _ _ => simp [isLs] at hl
        | dctF _ _ _ _ _ _ => simp [isLs] at hl
        | tuple _ _ _ _ _ => simp [isLs] at hl
        | @list a _ vs n xs _ h1 h2 h3 h4 h5 =>
          cases n2 with
          | leaf r t => cases r <;> simp [isAt, sameP] at t hs
          | dct0 _ _ _ _ => simp [sameP] at hs
          | dctF _ _ _ _ _ _ => simp [sameP] at hs
          | tuple _ _ _ _ _ => simp [sameP] at hs
          | @list b _ vs2 n2 ys _ k1 k2 k3 k4 k5 =>
            have z := same_trees (P := X.prog) (wo := X.w) (s := s) (n := 150) h5 k5 (by simpa [sameP] using hs) (by simp only [PyData.depth] at hd; omega)
            refine PySem.W.eq_listsT (n := 150) (e := fun _ => true) ⟨_, h1, h2, _, h3⟩ ⟨_, k1, k2, _, k3⟩ (by simpa using z.1) (fun j i1 i2 => z.2 j i1 i2) (by omega) ?_
            rw [show ((List.range vs.size).all fun _ => true) = true by simp]
            exact fin_b I hr o
      · exact o.elim
  · exact o.elim
theorem ne_ok (xo : XP g X) : OpR X (compareOp .NotEq) (rD g E neD) := by
  intro pins s σ H x y v u Q I rx ry ⟨w, h, a, b, hr, ra, rb, o⟩
  unfold neD at o
  split at o
  · rename_i hd
    obtain ⟨l, l', its, its', rfl, rfl, i1, i2, i3⟩ := difL_at I hd hr ra rb rx ry
    exact SeqAt.RcNeAt.lists_lengths i1 i2 i3 (by have := xo.un; omega) _ _ _ _ (fin_b I hr o)
  split at o
  · rename_i p q e1 e2
    split at o
    · rename_i hz
      simp only [dOk, Bool.and_eq_true, decide_eq_true_eq] at hz
      obtain ⟨as, r1⟩ := toD_reads I.hok hr e1 ra rx
      obtain ⟨bs, r2⟩ := toD_reads I.hok hr e2 rb ry
      exact SeqAt.ne_plain r1 r2 hz.1.1 hz.2.1 (dep xo.un hz.1.2) (fin_b I hr o)
    · exact o.elim
  · exact o.elim
/-- order -/
def isNone : PyData → Bool
  | .none => true
  | _ => false
theorem isNone_ne {p : PyData} (h : isNone p = false) : p ≠ .none := fun e => by subst e; cases h
def cmpD (f : PyData → PyData → Bool) (a b : D) (h : Hh) : Res D := match toD h a, toD h b with
  | some p, some q => if PySem.W.alike p q && !isNone p && decide (p.depth ≤ 150) then .ok (.bl (f p q)) h else .bad
  | _, _ => .bad
theorem cmp_ok (xo : XP g X) {op : CmpOp} {f : PyData → PyData → Bool}
    (rule : ∀ (s : Shared) (a b : Value) (da db : PyData) (as bs : List Addr) (Q : Value → Shared → Prop), Reads s.heap a da as → Reads s.heap b db bs → PySem.W.alike da db = true → da ≠ .none → X.A.units + min da.depth db.depth < cLine →
      Q (.bool (f da db)) s → wpAny (model X.prog X.w) X.A (compareOp op a b) Q X.xe s) : OpR X (compareOp op) (rD g E (cmpD f)) := by
  intro pins s σ H x y v u Q I rx ry ⟨w, h, a, b, hr, ra, rb, o⟩
  unfold cmpD at o
  split at o
  · rename_i p q e1 e2
    split at o
    · rename_i hz
      simp only [Bool.and_eq_true, decide_eq_true_eq, Bool.not_eq_true'] at hz
      obtain ⟨as, r1⟩ := toD_reads I.hok hr e1 ra rx
      obtain ⟨bs, r2⟩ := toD_reads I.hok hr e2 rb ry
      exact rule s v u p q as bs _ r1 r2 hz.1.1 (isNone_ne hz.1.2) (dep xo.un hz.2) (fin_b I hr o)
    · exact o.elim
  · exact o.elim
def ltD := cmpD PySem.W.dataLt
def leD := cmpD fun p q => !PySem.W.dataLt q p
def gtD := cmpD fun p q => PySem.W.dataLt q p
def geD := cmpD fun p q => !PySem.W.dataLt p q
theorem lt_ok (xo : XP g X) : OpR X (compareOp .Lt) (rD g E ltD) := cmp_ok xo fun _ _ _ _ _ _ _ _ r1 r2 h1 h2 h3 q => PySem.W.lt_data r1 r2 h1 h2 h3 q
theorem le_ok (xo : XP g X) : OpR X (compareOp .LtE) (rD g E leD) := cmp_ok xo fun _ _ _ _ _ _ _ _ r1 r2 h1 h2 h3 q => PySem.W.le_data r1 r2 h1 h2 h3 q
theorem gt_ok (xo : XP g X) : OpR X (compareOp .Gt) (rD g E gtD) := cmp_ok xo fun _ _ _ _ _ _ _ _ r1 r2 h1 h2 h3 q => PySem.W.gt_data r1 r2 h1 h2 h3 q
theorem ge_ok (xo : XP g X) : OpR X (compareOp .GtE) (rD g E geD) := cmp_ok xo fun _ _ _ _ _ _ _ _ r1 r2 h1 h2 h3 q => PySem.W.ge_data r1 r2 h1 h2 h3 q
/-- is None -/
def isD (a b : D) (h : Hh) : Res D := match a, b with
  | .val _, _ => .bad
  | .non, .non => .ok (.bl true) h
  | _, .non => .ok (.bl false) h
  | _, _ => .bad
def isnD (a b : D) (h : Hh) : Res D := match a, b with
  | .val _, _ => .bad
  | .non, .non => .ok (.bl false) h
  | _, .non => .ok (.bl true) h
  | _, _ => .bad
theorem rv_none {a : D} {x : V} (r : RV g w H a x) (hv : ∀ v, a ≠ .val v) (hn : a ≠ .non) : x ≠ .non := by
  cases r <;> first | (intro z; cases z; done) | exact absurd rfl hn | exact absurd rfl (hv _)
theorem is_ok : OpR X (compareOp .Is) (rD g E isD) := opr_of fun w H h a b x y Q hr ra rb o => by
  unfold isD at o
  split at o
  · exact o.elim
  · cases ra; cases rb
    exact ⟨_, op_isN, rfl, by simpa using o.keep hr (.bl true)⟩
  · rename_i h1 h2
    cases rb
    have hx := rv_none ra (fun v z => h1 v z) (fun z => h2 z)
    exact ⟨_, op_isN, rfl, by rw [decide_eq_false hx]; exact o.keep hr (.bl false)⟩
  · exact o.elim
theorem isn_ok : OpR X (compareOp .IsNot) (rD g E isnD) := opr_of fun w H h a b x y Q hr ra rb o => by
  unfold isnD at o
  split at o
  · exact o.elim
  · cases ra; cases rb
    exact ⟨_, op_notN, rfl, by simpa using o.keep hr (.bl false)⟩
  · rename_i h1 h2
    cases rb
    have hx := rv_none ra (fun v z => h1 v z) (fun z => h2 z)
    exact ⟨_, op_notN, rfl, by rw [decide_eq_false hx]; exact o.keep hr (.bl true)⟩
  · exact o.elim
end
end Bx
namespace Bx
open PySem PySem.Spec PyProof.Rows L2

def toK : D → Option Key
  | .int i => some (.inl i)
  | .str x => some (.inr x)
  | _ => none
def ofK : Key → D
  | .inl i => .int i
  | .inr x => .str x
def dfind (kds : List (Key × D)) (k : Key) : Option D := (kds.find? fun p => decide (p.1 = k)).map (·.2)
def dput (kds : List (Key × D)) (k : Key) (d : D) : List (Key × D) :=
  if (kds.any fun p => decide (p.1 = k)) = true then kds.map (fun p => if p.1 = k then (p.1, d) else p) else kds ++ [(k, d)]
/-- the entries of a dict -/
def asD (h : Hh) : D → Option (List (Key × D))
  | .dct kds => some kds
  | .ref n => match h[n]? with | some (.dct kds) => some kds | _ => none
  | _ => none

section
variable {g : Gx} {E : XK} {X : Cx} {w : Wd} {H : Hp} {h : Hh} {Q : VK}
theorem toK_ok {d : D} {k : Key} {x : V} (e : toK d = some k) (r : RV g w H d x) : x = kV k := by
  cases r <;> simp [toK] at e <;> subst e <;> rfl
theorem ofK_ok (k : Key) : RV g w H (ofK k) (kV k) := by
  cases k with
  | inl i => exact .int i
  | inr x => exact .str x
theorem asD_ok {d : D} {x : V} {kds : List (Key × D)} (e : asD h d = some kds) (hr : HR g w h H) (r : RV g w H d x) : ∃ a kvs, x = .ref a ∧ Rd H a (.dK kvs) ∧ kvs.map (·.1) = kds.map (·.1) ∧ RVs g w H (kds.map (·.2)) (kvs.map (·.2)) := by
  cases r with
  | dct h1 e1 t => simp [asD] at e; subst e; exact ⟨_, _, rfl, .inr ⟨_, h1⟩, e1, t⟩
  | @ref n a h1 =>
    simp only [asD] at e
    split at e
    · rename_i e2
      cases e
      obtain ⟨_, vs, e3, e4, t⟩ := hr.ob n _ a e2 h1
      exact ⟨a, vs, rfl, .inl e3, e4, t⟩
    · cases e
  | _ => simp [asD] at e
theorem dfind_ok {k : Key} : ∀ {kds : List (Key × D)} {kvs : List (Key × V)}, kvs.map (·.1) = kds.map (·.1) → RVs g w H (kds.map (·.2)) (kvs.map (·.2)) →
    (dfind kds k = none ∧ valV kvs k = none) ∨ ∃ d v, dfind kds k = some d ∧ valV kvs k = some v ∧ RV g w H d v
  | [], [], _, _ => .inl ⟨rfl, rfl⟩
  | [], _ :: _, e, _ => by simp at e
  | _ :: _, [], e, _ => by simp at e
  | p :: kds, q :: kvs, e, r => by
    simp only [List.map_cons, List.cons.injEq] at e
    cases r with
    | cons r1 r2 =>
      by_cases hk : p.1 = k
      · refine .inr ⟨p.2, q.2, ?_, ?_, r1⟩
        · simp [dfind, List.find?_cons, hk]
        · simp [valV, List.find?_cons, e.1, hk]
      · have e1 : dfind (p :: kds) k = dfind kds k := by simp [dfind, List.find?_cons, hk]
        have e2 : valV (q :: kvs) k = valV kvs k := by simp [valV, List.find?_cons, e.1, hk]
        rw [e1, e2]
        exact dfind_ok e.2 r2
theorem any_same {k : Key} : ∀ {kds : List (Key × D)} {kvs : List (Key × V)}, kvs.map (·.1) = kds.map (·.1) → (kds.any fun p => decide (p.1 = k)) = kvs.any fun p => decide (p.1 = k)
  | [], [], _ => rfl
  | [], _ :: _, e => by simp at e
  | _ :: _, [], e => by simp at e
  | p :: kds, q :: kvs, e => by
    simp only [List.map_cons, List.cons.injEq] at e
    rw [List.any_cons, List.any_cons, e.1, any_same e.2]
theorem map_same {k : Key} {d : D} {v : V} (rv : RV g w H d v) : ∀ {kds : List (Key × D)} {kvs : List (Key × V)}, kvs.map (·.1) = kds.map (·.1) → RVs g w H (kds.map (·.2)) (kvs.map (·.2)) →
    (kvs.map fun p => if p.1 = k then (p.1, v) else p).map (·.1) = (kds.map fun p => if p.1 = k then (p.1, d) else p).map (·.1) ∧
      RVs g w H ((kds.map fun p => if p.1 = k then (p.1, d) else p).map (·.2)) ((kvs.map fun p => if p.1 = k then (p.1, v) else p).map (·.2))
  | [], [], _, _ => ⟨rfl, .nil⟩
  | [], _ :: _, e, _ => by simp at e
  | _ :: _, [], e, _ => by simp at e
  | p :: kds, q :: kvs, e, r => by
    simp only [List.map_cons, List.cons.injEq] at e
    cases r with
    | cons r1 r2 =>
      obtain ⟨a, b⟩ := map_same rv e.2 r2
      simp only [List.map_cons, e.1]
      by_cases hk : p.1 = k
      · rw [if_pos hk, if_pos hk]
        exact ⟨by rw [a], .cons rv b⟩
      · rw [if_neg hk, if_neg hk]
        exact ⟨by rw [a, e.1], .cons r1 b⟩
theorem dput_ok {k : Key} {d : D} {v : V} {kds : List (Key × D)} {kvs : List (Key × V)} (e : kvs.map (·.1) = kds.map (·.1)) (r : RVs g w H (kds.map (·.2)) (kvs.map (·.2))) (rv : RV g w H d v) :
    (putK kvs k v).map (·.1) = (dput kds k d).map (·.1) ∧ RVs g w H ((dput kds k d).map (·.2)) ((putK kvs k v).map (·.2)) := by
  unfold putK dput
  rw [any_same e]
  split
  · exact map_same rv e r
  · rw [List.map_append, List.map_append, List.map_append, List.map_append, e]
    exact ⟨rfl, r.append (.cons rv .nil)⟩

def inB (a c : D) (h : Hh) : Option Bool := match c with
  | .str z => match a with
    | .str y => match y.cps.toList with
      | [s] => some (decide (s ∈ z.cps.toList))
      | _ => some (!(Builtin.Str.occurrences z y 0 z.length 1).isEmpty)
    | _ => none
  | c => match asD h c with
    | some kds => match toK a with
      | some k => some (dfind kds k).isSome
      | none => none
    | none => match toD h a, toD h c with
      | some p, some (.list ps) => if dOk p && PyData.plainAll ps then some (ps.any fun y => PyData.eqv y p) else none
      | some p, some (.tuple ps) => if dOk p && PyData.plainAll ps then some (ps.any fun y => PyData.eqv y p) else none
      | _, _ => none
def inD (a c : D) (h : Hh) : Res D := match inB a c h with | some b => .ok (.bl b) h | none => .bad
def ninD (a c : D) (h : Hh) : Res D := match inB a c h with | some b => .ok (.bl (!b)) h | none => .bad
theorem str_one {y : Str} {s : Nat} (e : y.cps.toList = [s]) : y = ⟨#[s]⟩ := by
  cases y with | mk c => cases c with | mk l => simp at e; subst e; rfl
theorem in_core (xo : XO g X) {pins : List (Addr × Obj)} {s : Shared} {σ : L2.St} {x y : V} {v u : Value} {a c : D} {b : Bool} (I : Inv X pins σ H s) (rx : RelV x v) (ry : RelV y u) (hr : HR g w h H) (ra : RV g w H a x) (rc : RV g w H c y) (e : inB a c h = some b)
    (Q1 Q2 : Value → Shared → Prop) (q1 : ∀ s', Inv X pins σ H s' → Q1 (.bool b) s') (q2 : ∀ s', Inv X pins σ H s' → Q2 (.bool (!b)) s') :
    wpAny (model X.prog X.w) X.A (compareOp .In v u) Q1 X.xe s ∧ wpAny (model X.prog X.w) X.A (compareOp .NotIn v u) Q2 X.xe s := by
  have dat : ∀ (h2 : (match toD h a, toD h c with
      | some p, some (.list ps) => if dOk p && PyData.plainAll ps then some (ps.any fun y => PyData.eqv y p) else none
      | some p, some (.tuple ps) => if dOk p && PyData.plainAll ps then some (ps.any fun y => PyData.eqv y p) else none
      | _, _ => none) = some b), wpAny (model X.prog X.w) X.A (compareOp .In v u) Q1 X.xe s ∧ wpAny (model X.prog X.w) X.A (compareOp .NotIn v u) Q2 X.xe s := by
    intro h2
    split at h2
    · rename_i p ps e1 e2
      split at h2
      · rename_i hz
        cases h2
        simp only [dOk, Bool.and_eq_true, decide_eq_true_eq] at hz
        obtain ⟨as, r1⟩ := toD_reads I.hok hr e1 ra rx
        obtain ⟨bs, r2⟩ := toD_reads I.hok hr e2 rc ry
        have hu : X.A.units + 1 + min (PyData.depthAll ps) p.depth < cLine := by
          have := xo.un
          have := Nat.min_le_right (PyData.depthAll ps) p.depth
          omega
        exact ⟨SeqAt.in_list_data r2 r1 hz.2 hz.1.1 hu (q1 s I), SeqAt.notIn_list_data r2 r1 hz.2 hz.1.1 hu (q2 s I)⟩
      · cases h2
    · rename_i p ps e1 e2
      split at h2
      · rename_i hz
        cases h2
        simp only [dOk, Bool.and_eq_true, decide_eq_true_eq] at hz
        obtain ⟨as, r1⟩ := toD_reads I.hok hr e1 ra rx
        obtain ⟨bs, r2⟩ := toD_reads I.hok hr e2 rc ry
        have hu : X.A.units + 1 + min (PyData.depthAll ps) p.depth < cLine := by
          have := xo.un
          have := Nat.min_le_right (PyData.depthAll ps) p.depth
          omega
        exact ⟨SeqAt.in_tuple_data r2 r1 hz.2 hz.1.1 hu (q1 s I), SeqAt.notIn_tuple_data r2 r1 hz.2 hz.1.1 hu (q2 s I)⟩
      · cases h2
    · cases h2
  have gen : ∀ (h3 : (match asD h c with
    | some kds => match toK a with
      | some k => some (dfind kds k).isSome
      | none => none
    | none => match toD h a, toD h c with
      | some p, some (.list ps) => if dOk p && PyData.plainAll ps then some (ps.any fun y => PyData.eqv y p) else none
      | some p, some (.tuple ps) => if dOk p && PyData.plainAll ps then some (ps.any fun y => PyData.eqv y p) else none
      | _, _ => none) = some b), wpAny (model X.prog X.w) X.A (compareOp .In v u) Q1 X.xe s ∧ wpAny (model X.prog X.w) X.A (compareOp .NotIn v u) Q2 X.xe s := by
    intro h3
    split at h3
    · rename_i kds e1
      split at h3
      · rename_i k e2
        cases h3
        obtain ⟨p, kvs, rfl, hp, ek, t⟩ := asD_ok e1 hr rc
        cases ry
        have ex := toK_ok e2 ra
        subst ex
        have hu : X.A.units + 1 < cLine := by have := xo.un; omega
        have eq : (valV kvs k).isSome = (dfind kds k).isSome := by
          rcases dfind_ok (k := k) ek t with ⟨z1, z2⟩ | ⟨d, v, z1, z2, _⟩ <;> rw [z1, z2] <;> rfl
        have dg : DGet H p (kV k) (valV kvs k) := .inl ⟨kvs, k, hp, rfl, rfl⟩
        exact ⟨d_in hu I dg rx fun s' I' => by rw [eq]; exact q1 s' I', d_notIn hu I dg rx fun s' I' => by rw [eq]; exact q2 s' I'⟩
      · cases h3
    · exact dat h3
  unfold inB at e
  split at e
  · cases rc
    split at e
    · cases ra
      split at e
      · rename_i y s0 e1
        have ey := str_one e1
        cases e
        subst ey
        exact ⟨thn (op_in_sign pins s σ H _ _ _ _ (fun r H' => r = .bl _ ∧ H' = H) I rx ry ⟨_, _, rfl, rfl, rfl, rfl⟩) (fun r s' ⟨rv, H', I', r1, e1, e2⟩ => by subst e1 e2; cases r1; exact q1 s' I'),
          thn (op_notIn_sign pins s σ H _ _ _ _ (fun r H' => r = .bl _ ∧ H' = H) I rx ry ⟨_, _, rfl, rfl, rfl, rfl⟩) (fun r s' ⟨rv, H', I', r1, e1, e2⟩ => by subst e1 e2; cases r1; exact q2 s' I')⟩
      · cases e
        exact ⟨thn (op_in_str pins s σ H _ _ _ _ (fun r H' => r = .bl _ ∧ H' = H) I rx ry ⟨_, _, rfl, rfl, rfl, rfl⟩) (fun r s' ⟨rv, H', I', r1, e1, e2⟩ => by subst e1 e2; cases r1; exact q1 s' I'),
          thn (op_notin_str pins s σ H _ _ _ _ (fun r H' => r = .bl _ ∧ H' = H) I rx ry ⟨_, _, rfl, rfl, rfl, rfl⟩) (fun r s' ⟨rv, H', I', r1, e1, e2⟩ => by subst e1 e2; cases r1; exact q2 s' I')⟩
    · cases e
  · exact gen e
theorem in_ok (xo : XO g X) : OpR X (compareOp .In) (rD g E inD) := by
  intro pins s σ H x y v u Q I rx ry ⟨w, h, a, b, hr, ra, rb, o⟩
  unfold inD at o
  split at o
  · rename_i b e
    exact (in_core xo I rx ry hr ra rb e _ (fun _ _ => True) (fun s' I' => fin_b I' hr o) (fun _ _ => trivial)).1
  · exact o.elim
theorem nin_ok (xo : XO g X) : OpR X (compareOp .NotIn) (rD g E ninD) := by
  intro pins s σ H x y v u Q I rx ry ⟨w, h, a, b, hr, ra, rb, o⟩
  unfold ninD at o
  split at o
  · rename_i b e
    exact (in_core xo I rx ry hr ra rb e (fun _ _ => True) _ (fun _ _ => trivial) (fun s' I' => fin_b I' hr o)).2
  · exact o.elim

def idxD (a b : D) (h : Hh) : Res D := match b with
  | .int i => match a with
    | .str z => match atI z.cps.toList i with
      | some c => if sz z.length then .ok (.str ⟨#[c]⟩) h else .bad
      | none => .bad
    | a => match asS h a with
      | some ds => match atI ds i with
        | some d => .ok d h
        | none => .bad
      | none => match asD h a with
        | some kds => match dfind kds (.inl i) with
          | some d => .ok d h
          | none => .bad
        | none => .bad
  | b => match asD h a, toK b with
    | some kds, some k => match dfind kds k with
      | some d => .ok d h
      | none => .bad
    | _, _ => .bad
theorem RVs.atI {ds : List D} {vs : List V} {i : Int} {d : D} (r : RVs g w H ds vs) (e : atI ds i = some d) : ∃ v, atI vs i = some v ∧ RV g w H d v := by
  unfold L2.atI at e ⊢
  rw [← r.length]
  simp only [Option.bind_eq_some_iff] at e ⊢
  obtain ⟨j, e1, e2⟩ := e
  obtain ⟨v, e3, rv⟩ := r.get e2
  exact ⟨v, ⟨j, e1, e3⟩, rv⟩
theorem idx_ok (xo : XO g X) {a b : Expr} {ta tb : TE} {pos : Pos} (ha : PE X a ta) (hb : PE X b tb) (hs : PlainIx b) : PE X (.Subscript a b pos) (tOp (rD g E idxD) ta tb) := by
  have hx : IxR X (fun x y H Q => rD g E idxD x y H Q ∧ ((∃ p xs i v, x = .ref p ∧ y = .int i ∧ SqL X.K H p xs ∧ L2.atI xs i = some v ∧ Q v H) ∨ (∃ p xs i v, x = .ref p ∧ y = .int i ∧ SqT X.K H p xs ∧ L2.atI xs i = some v ∧ Q v H) ∨ rIxS x y H Q)) := by
    intro value slice pins s σ H x y v u Q I rx ry ⟨_, q⟩ hs
    exact ix_seq value slice pins s σ H x y v u Q I rx ry q hs
  have hu : X.A.units + 1 < cLine := by have := xo.un; omega
  refine ⟨fun pins s σ H Q I h => ?_⟩
  have all : ∀ {H2 : Hp} {s2 : Shared} {x y : V} {v u : Value}, Inv X pins σ H2 s2 → RelV x v → RelV y u → rD g E idxD x y H2 Q → wpAny (model X.prog X.w) X.A (subscriptTail a b v u) (EP X pins σ Q) X.xe s2 := by
    intro H2 s2 x y v u I2 rx ry ⟨w, h, d, e, hr, rd, re, o⟩
    have dic : ∀ {kds : List (Key × D)} {k : Key} {d' : D}, asD h d = some kds → toK e = some k → dfind kds k = some d' → OKg g (RV g) w H2 E Q (.ok d' h) → wpAny (model X.prog X.w) X.A (subscriptTail a b v u) (EP X pins σ Q) X.xe s2 := by
      intro kds k d' e1 e2 e3 o'
      obtain ⟨p, kvs, rfl, hp, ek, t⟩ := asD_ok e1 hr rd
      cases rx
      have ex := toK_ok e2 re
      subst ex
      rcases dfind_ok (k := k) ek t with ⟨z1, z2⟩ | ⟨d2, v2, z1, z2, rv2⟩
      · rw [z1] at e3; cases e3
      · rw [z1] at e3
        cases e3
        have dg : DGet H2 p (kV k) (some v2) := .inl ⟨kvs, k, hp, rfl, z2.symm⟩
        exact tail_any (ops := [.ref p, u]) (dict_typeIs I2 dg) PySem.F.slot_dict_getitem.lookup (d_getItem hu I2 dg ry fun w' s3 I3 rw' => ⟨v2, H2, I3, rw', o'.keep hr rv2⟩) (hs _ _)
    unfold idxD at o
    split at o
    · cases re
      split at o
      · cases rd
        split at o
        · rename_i e1
          split at o
          · rename_i hz
            exact ix_str a b pins s2 σ H2 _ _ v u Q I2 rx ry ⟨_, _, _, rfl, rfl, sz_le hz, e1, o.keep hr (.str _)⟩ (hs _ _)
          · exact o.elim
        · exact o.elim
      · split at o
        · rename_i e1
          split at o
          · rename_i e2
            obtain ⟨p, vs, rfl, hq, t⟩ := asS_ok (K := X.K) e1 hr rd
            obtain ⟨v', e3, rv⟩ := t.atI e2
            rcases hq with hq | hq
            · exact ix_list a b pins s2 σ H2 _ _ v u Q I2 rx ry ⟨_, _, _, _, rfl, rfl, hq, e3, o.keep hr rv⟩ (hs _ _)
            · exact ix_tup a b pins s2 σ H2 _ _ v u Q I2 rx ry ⟨_, _, _, _, rfl, rfl, hq, e3, o.keep hr rv⟩ (hs _ _)
          · exact o.elim
        · split at o
          · rename_i e1
            split at o
            · rename_i e2
              exact dic e1 rfl e2 o
            · exact o.elim
          · exact o.elim
    · split at o
      · rename_i e1 e2
        split at o
        · rename_i e3
          exact dic e1 e2 e3 o
        · exact o.elim
      · exact o.elim
  exact Subscript_ (binT ha hb I h fun v u s2 x y H2 I2 rx ry q => all I2 rx ry q)

def slcD (a : D) (lo hi : Option Int) (h : Hh) : Res D := match a with
  | .str z => if sz z.length then .ok (.str (cutS z lo hi)) h else .bad
  | .tup ds => .ok (.tup ((ds.drop (HT.sIx ds.length 0 lo)).take (HT.sIx ds.length ds.length hi - HT.sIx ds.length 0 lo))) h
  | .scr ns => .ok (.lst (((ns.drop (HT.sIx ns.length 0 lo)).take (HT.sIx ns.length ns.length hi - HT.sIx ns.length 0 lo)).map .int)) h
  | a => match asL h a with
    | some ds => .ok (.lst ((ds.drop (HT.sIx ds.length 0 lo)).take (HT.sIx ds.length ds.length hi - HT.sIx ds.length 0 lo))) h
    | none => .bad
def rSl1 (g : Gx) (E : XK) : V → Option Int → Option Int → Hp → VK → Prop := fun x lo hi H Q => ∃ w h a, HR g w h H ∧ RV g w H a x ∧ OKg g (RV g) w H E Q (slcD a lo hi h)
theorem RVs.ints : ∀ (ns : List Int), RVs g w H (ns.map .int) (ns.map V.int)
  | [] => .nil
  | n :: ns => .cons (.int n) (RVs.ints ns)
theorem cut_ok {ds : List D} {vs : List V} (t : RVs g w H ds vs) (lo hi : Option Int) : RVs g w H ((ds.drop (HT.sIx ds.length 0 lo)).take (HT.sIx ds.length ds.length hi - HT.sIx ds.length 0 lo)) (cutV vs lo hi) := by
  unfold cutV
  rw [← t.length]
  exact (t.drop _).take _
theorem cut_all {α : Type} {ds : List α} {lo hi : Option Int} (e : HT.sIx ds.length 0 lo = 0 ∧ HT.sIx ds.length ds.length hi = ds.length) : (ds.drop (HT.sIx ds.length 0 lo)).take (HT.sIx ds.length ds.length hi - HT.sIx ds.length 0 lo) = ds := by
  rw [e.1, e.2]; simp
theorem slc_ok (xo : XO g X) : SlR X (rSl1 g E) := by
  intro pins s σ H x v vl vu lo hi sl Q I rx hs pl pu ⟨w, h, a, hr, ra, o⟩
  unfold slcD at o
  split at o
  · cases ra
    split at o
    · rename_i hz
      exact sl_str pins s σ H _ v vl vu lo hi sl Q I rx hs pl pu ⟨_, rfl, sz_le hz, o.keep hr (.str _)⟩
    · exact o.elim
  · rename_i ds
    obtain ⟨p, vs, rfl, hp, t⟩ := rv_tup ra
    refine sl_tupA pins s σ H _ v vl vu lo hi sl Q I rx hs pl pu ⟨p, vs, rfl, .inl (.inl hp), fun e => ?_, fun _ => o.tup hr (cut_ok t lo hi)⟩
    rw [← t.length] at e
    rw [cut_all e] at o
    exact o.keep hr ra
  · rename_i ns
    cases ra with
    | @scr p _ hp =>
      refine sl_list pins s σ H _ v vl vu lo hi sl Q I rx hs pl pu ⟨p, ns.map V.int, rfl, by rw [xo.K]; exact hp.sq, ?_⟩
      have e : cutV (ns.map V.int) lo hi = ((ns.drop (HT.sIx ns.length 0 lo)).take (HT.sIx ns.length ns.length hi - HT.sIx ns.length 0 lo)).map V.int := by
        unfold cutV
        rw [List.length_map, List.map_take, List.map_drop]
      rw [e]
      exact o.lst hr (RVs.ints _)
  · split at o
    · rename_i e1
      obtain ⟨p, vs, rfl, hp, t⟩ := asL_ok e1 hr ra
      exact sl_list pins s σ H _ v vl vu lo hi sl Q I rx hs pl pu ⟨p, vs, rfl, .inl (.inl hp), o.lst hr (cut_ok t lo hi)⟩
    · exact o.elim
end
end Bx
namespace Bx
open PySem PySem.Spec PyProof.Rows L2

/-- the built-in calls -/
inductive Bi where
  | len | list | nlist | tuple | sum | max | min | abs | int | sorted | nsorted | repr | all | any | isi
  deriving DecidableEq, Inhabited

/-- the built-in value that is called -/
def biV : Bi → Value
  | .len => .builtin "len"
  | .list => .type "list"
  | .nlist => .type "list"
  | .tuple => .type "tuple"
  | .sum => .builtin "sum"
  | .max => .builtin "max"
  | .min => .builtin "min"
  | .abs => .builtin "abs"
  | .int => .type "int"
  | .sorted => .builtin "sorted"
  | .nsorted => .builtin "sorted"
  | .repr => .builtin "repr"
  | .all => .builtin "all"
  | .any => .builtin "any"
  | .isi => .builtin "isinstance"
def biN : Bi → Str
  | .len => "len"
  | .list => "list"
  | .nlist => "list"
  | .tuple => "tuple"
  | .sum => "sum"
  | .max => "max"
  | .min => "min"
  | .abs => "abs"
  | .int => "int"
  | .sorted => "sorted"
  | .nsorted => "sorted"
  | .repr => "repr"
  | .all => "all"
  | .any => "any"
  | .isi => "isinstance"
theorem bi_boot (b : Bi) : bootBuiltins (biN b) = some (biV b) := by cases b <;> decide +kernel

def intsOf : List D → Option (List Int)
  | [] => some []
  | .int i :: ds => (intsOf ds).map (i :: ·)
  | _ :: _ => none
def strsOf : List D → Option (List Str)
  | [] => some []
  | .str i :: ds => (strsOf ds).map (i :: ·)
  | _ :: _ => none
def blsOf : List D → Option (List Bool)
  | [] => some []
  | .bl i :: ds => (blsOf ds).map (i :: ·)
  | _ :: _ => none
section
variable {g : Gx} {E : XK} {X : Cx} {w : Wd} {H : Hp} {h : Hh} {Q : VK}
theorem intsOf_eq : ∀ {ds : List D} {ns : List Int}, intsOf ds = some ns → ds = ns.map .int
  | [], _, e => by cases e; rfl
  | .int i :: ds, ns, e => by
    simp only [intsOf, Option.map_eq_some_iff] at e
    obtain ⟨r, e1, rfl⟩ := e
    rw [intsOf_eq e1]; rfl
  | .non :: _, _, e | .bl _ :: _, _, e | .str _ :: _, _, e | .tup _ :: _, _, e | .lst _ :: _, _, e | .dct _ :: _, _, e | .obj _ _ :: _, _, e | .exn _ _ :: _, _, e | .ref _ :: _, _, e | .scr _ :: _, _, e | .val _ :: _, _, e => by simp [intsOf] at e
theorem strsOf_eq : ∀ {ds : List D} {ns : List Str}, strsOf ds = some ns → ds = ns.map .str
  | [], _, e => by cases e; rfl
  | .str i :: ds, ns, e => by
    simp only [strsOf, Option.map_eq_some_iff] at e
    obtain ⟨r, e1, rfl⟩ := e
    rw [strsOf_eq e1]; rfl
  | .non :: _, _, e | .bl _ :: _, _, e | .int _ :: _, _, e | .tup _ :: _, _, e | .lst _ :: _, _, e | .dct _ :: _, _, e | .obj _ _ :: _, _, e | .exn _ _ :: _, _, e | .ref _ :: _, _, e | .scr _ :: _, _, e | .val _ :: _, _, e => by simp [strsOf] at e
theorem blsOf_eq : ∀ {ds : List D} {ns : List Bool}, blsOf ds = some ns → ds = ns.map .bl
  | [], _, e => by cases e; rfl
  | .bl i :: ds, ns, e => by
    simp only [blsOf, Option.map_eq_some_iff] at e
    obtain ⟨r, e1, rfl⟩ := e
    rw [blsOf_eq e1]; rfl
  | .non :: _, _, e | .str _ :: _, _, e | .int _ :: _, _, e | .tup _ :: _, _, e | .lst _ :: _, _, e | .dct _ :: _, _, e | .obj _ _ :: _, _, e | .exn _ _ :: _, _, e | .ref _ :: _, _, e | .scr _ :: _, _, e | .val _ :: _, _, e => by simp [blsOf] at e
@[simp] theorem intsOf_map (ns : List Int) : intsOf (ns.map .int) = some ns := by induction ns with | nil => rfl | cons n ns ih => simp [intsOf, ih]
@[simp] theorem strsOf_map (ns : List Str) : strsOf (ns.map .str) = some ns := by induction ns with | nil => rfl | cons n ns ih => simp [strsOf, ih]
@[simp] theorem blsOf_map (ns : List Bool) : blsOf (ns.map .bl) = some ns := by induction ns with | nil => rfl | cons n ns ih => simp [blsOf, ih]
theorem RVs.toInts : ∀ {ns : List Int} {vs : List V}, RVs g w H (ns.map .int) vs → vs = ns.map V.int
  | [], _, r => by cases r; rfl
  | n :: ns, _, r => by cases r with | cons r1 r2 => cases r1; rw [RVs.toInts r2]; rfl
theorem RVs.toStrs : ∀ {ns : List Str} {vs : List V}, RVs g w H (ns.map .str) vs → vs = ns.map V.str
  | [], _, r => by cases r; rfl
  | n :: ns, _, r => by cases r with | cons r1 r2 => cases r1; rw [RVs.toStrs r2]; rfl
theorem RVs.toBls : ∀ {ns : List Bool} {vs : List V}, RVs g w H (ns.map .bl) vs → vs = ns.map V.bl
  | [], _, r => by cases r; rfl
  | n :: ns, _, r => by cases r with | cons r1 r2 => cases r1; rw [RVs.toBls r2]; rfl
theorem RVs.strs : ∀ (ns : List Str), RVs g w H (ns.map .str) (ns.map V.str)
  | [] => .nil
  | n :: ns => .cons (.str n) (RVs.strs ns)

/-- the greatest, the least -/
def maxI : List Int → Option Int
  | [] => none
  | n :: ns => some (ns.foldl Max.max n)
def minI : List Int → Option Int
  | [] => none
  | n :: ns => some (ns.foldl Min.min n)
theorem foldl_max : ∀ (ns : List Int) (n m : Int), (m = n ∨ m ∈ ns) → n ≤ m → (∀ y ∈ ns, y ≤ m) → ns.foldl Max.max n = m
  | [], n, m, h1, _, _ => by rcases h1 with h1 | h1; exact h1.symm; cases h1
  | x :: ns, n, m, h1, h2, h3 => by
    rw [List.foldl_cons]
    have hx : x ≤ m := h3 x (by simp)
    refine foldl_max ns _ m ?_ (by omega) (fun y hy => h3 y (by simp [hy]))
    rcases h1 with h1 | h1
    · left; omega
    · rcases List.mem_cons.mp h1 with h1 | h1
      · left; omega
      · exact .inr h1
theorem foldl_min : ∀ (ns : List Int) (n m : Int), (m = n ∨ m ∈ ns) → m ≤ n → (∀ y ∈ ns, m ≤ y) → ns.foldl Min.min n = m
  | [], n, m, h1, _, _ => by rcases h1 with h1 | h1; exact h1.symm; cases h1
  | x :: ns, n, m, h1, h2, h3 => by
    rw [List.foldl_cons]
    have hx : m ≤ x := h3 x (by simp)
    refine foldl_min ns _ m ?_ (by omega) (fun y hy => h3 y (by simp [hy]))
    rcases h1 with h1 | h1
    · left; omega
    · rcases List.mem_cons.mp h1 with h1 | h1
      · left; omega
      · exact .inr h1
theorem maxI_of {ns : List Int} {k m : Int} (e : maxI ns = some k) (h1 : m ∈ ns) (h2 : ∀ y ∈ ns, y ≤ m) : m = k := by
  cases ns with
  | nil => cases e
  | cons n ns =>
    simp only [maxI, Option.some.injEq] at e
    rw [← e]
    exact (foldl_max ns n m (List.mem_cons.mp h1) (h2 n (by simp)) (fun y hy => h2 y (by simp [hy]))).symm
theorem minI_of {ns : List Int} {k m : Int} (e : minI ns = some k) (h1 : m ∈ ns) (h2 : ∀ y ∈ ns, m ≤ y) : m = k := by
  cases ns with
  | nil => cases e
  | cons n ns =>
    simp only [minI, Option.some.injEq] at e
    rw [← e]
    exact (foldl_min ns n m (List.mem_cons.mp h1) (h2 n (by simp)) (fun y hy => h2 y (by simp [hy]))).symm

def alikes : List PyData → Bool := fun ps => ps.all fun p => ps.all fun q => PySem.W.alike p q
def sortable (ps : List PyData) : Bool := (ps.all fun p => match p with | .tuple (_ :: _) => true | _ => false) || (ps.all fun p => match p with | .none => false | .tuple _ => false | _ => true)
theorem alikes_ok {ps : List PyData} (e : alikes ps = true) : PySem.W.AllAlike ps := fun d hd d' hd' => by
  simp only [alikes, List.all_eq_true] at e
  exact e d hd d' hd'
theorem sortable_ok {ps : List PyData} (e : sortable ps = true) : PySem.W.Sortable ps := by
  simp only [sortable, Bool.or_eq_true, List.all_eq_true] at e
  rcases e with e | e
  · refine .inl fun d hd => ?_
    have := e d hd
    split at this
    · exact ⟨_, _, rfl⟩
    · cases this
  · refine .inr fun d hd => ?_
    have := e d hd
    constructor
    · intro z; subst z; cases this
    · intro xs z; subst z; cases this
/-- the sorted items -/
def sortD (bs : List (D × PyData)) : List (D × PyData) := bs.mergeSort (PySem.W.dataLe false (·.2))
def sortedL (h : Hh) (ds : List D) : Option (List D) := match toDs h ds with
  | some ps => if alikes ps && sortable ps && (ps.all fun p => decide (p.depth ≤ 150)) then some ((sortD (ds.zip ps)).map (·.1)) else none
  | none => none

/-- a value's built-in type -/
def tyN (h : Hh) : D → Option String
  | .non => some "NoneType"
  | .bl _ => some "bool"
  | .int _ => some "int"
  | .str _ => some "str"
  | .tup _ => some "tuple"
  | .lst _ => some "list"
  | .dct _ => some "dict"
  | .scr _ => none
  | .ref n => match h[n]? with | some (.lst _) => some "list" | some (.dct _) => some "dict" | _ => none
  | .obj _ _ => none
  | .exn _ _ => none
  | .cau _ _ _ _ => none
  | .val _ => none
theorem tyN_ok {K : PySem.W.Frag} {d : D} {x : V} {n : String} (e : tyN h d = some n) (hr : HR g w h H) (r : RV g w H d x) : TyX K H x (.type n) := by
  cases r with
  | non => simp [tyN] at e; subst e; exact .base .non
  | bl b => simp [tyN] at e; subst e; exact .base (.bl b)
  | int i => simp [tyN] at e; subst e; exact .base (.int i)
  | str y => simp [tyN] at e; subst e; exact .base (.str y)
  | tup h1 _ => simp [tyN] at e; subst e; exact .base (.tup h1)
  | lst h1 _ _ => simp [tyN] at e; subst e; exact .base (.lst h1)
  | dct h1 _ _ =>
    simp [tyN] at e; subst e
    exact .fDict h1
  | scr h1 => simp [tyN] at e
  | @ref k a h1 =>
    simp only [tyN] at e
    split at e
    · rename_i e1
      cases e
      obtain ⟨_, vs, e2, _⟩ := hr.ob k _ a e1 h1
      exact .base (.lst e2)
    · rename_i e1
      cases e
      obtain ⟨_, vs, e2, _⟩ := hr.ob k _ a e1 h1
      exact .base (.dK e2)
    · cases e
  | obj _ _ _ _ _ => simp [tyN] at e
  | exn _ _ _ _ => simp [tyN] at e
  | cau0 _ => simp [tyN] at e
  | cau _ _ _ _ => simp [tyN] at e
  | val _ => simp [tyN] at e

/-- what a built-in call gives -/
def bLen (ds : List D) (h : Hh) : Res D := match ds with
  | [d] => match d with
    | .str z => if sz z.length then .ok (.int z.length) h else .bad
    | d => match asS h d with
      | some ds => .ok (.int ds.length) h
      | none => match asD h d with
        | some kds => .ok (.int kds.length) h
        | none => .bad
  | _ => .bad
def bSeq (f : List D → Res D) (ds : List D) (h : Hh) : Res D := match ds with
  | [d] => match asS h d with
    | some ds => f ds
    | none => .bad
  | _ => .bad
def bInts (f : List Int → Res D) (ds : List D) (h : Hh) : Res D := match ds with
  | [d] => match asL h d with
    | some ds => match intsOf ds with
      | some ns => f ns
      | none => .bad
    | none => .bad
  | _ => .bad
def bBls (f : List Bool → Res D) (ds : List D) (h : Hh) : Res D := match ds with
  | [d] => match asL h d with
    | some ds => match blsOf ds with
      | some ns => f ns
      | none => .bad
    | none => .bad
  | _ => .bad
def bSrt (f : List D → Res D) (ds : List D) (h : Hh) : Res D := match ds with
  | [d] => match asL h d with
    | some ds => match sortedL h ds with
      | some es => f es
      | none => .bad
    | none => .bad
  | _ => .bad
def bAbs (ds : List D) (h : Hh) : Res D := match ds with
  | [.int i] => .ok (.int (if i < 0 then -i else i)) h
  | _ => .bad
def bInt (ds : List D) (h : Hh) : Res D := match ds with
  | [.int i] => .ok (.int i) h
  | [.bl k] => .ok (.int (if k then 1 else 0)) h
  | _ => .bad
def bRepr (ds : List D) (h : Hh) : Res D := match ds with
  | [d] => match toD h d with
    | some p => if p.showable && sz p.shown.length && decide (p.depth ≤ 150) then .ok (.str p.shown) h else .bad
    | none => .bad
  | _ => .bad
def bIsi (ds : List D) (h : Hh) : Res D := match ds with
  | [d, .val (.ty c)] => match tyN h d with
    | some n => match kitB n c with
      | some b => .ok (.bl b) h
      | none => .bad
    | none => .bad
  | _ => .bad
def optI (o : Option Int) (h : Hh) : Res D := match o with
  | some k => .ok (.int k) h
  | none => .bad
def biS (b : Bi) (ds : List D) (h : Hh) : Res D := match b with
  | .len => bLen ds h
  | .list => bSeq (fun es => .ok (.lst es) h) ds h
  | .nlist => bSeq (fun es => .ok (.ref h.length) (h ++ [.lst es])) ds h
  | .tuple => bSeq (fun es => .ok (.tup es) h) ds h
  | .sum => bInts (fun ns => .ok (.int ns.sum) h) ds h
  | .max => bInts (fun ns => optI (maxI ns) h) ds h
  | .min => bInts (fun ns => optI (minI ns) h) ds h
  | .abs => bAbs ds h
  | .int => bInt ds h
  | .sorted => bSrt (fun es => .ok (.lst es) h) ds h
  | .nsorted => bSrt (fun es => .ok (.ref h.length) (h ++ [.lst es])) ds h
  | .repr => bRepr ds h
  | .all => bBls (fun bs => .ok (.bl (bs.all id)) h) ds h
  | .any => bBls (fun bs => .ok (.bl (bs.any id)) h) ds h
  | .isi => bIsi ds h
theorem callr_of {f : Value} {fd : List D → Hh → Res D}
    (hh : ∀ (w : Wd) (H : Hp) (h : Hh) (ds : List D) (xs : List V) (Q : VK), HR g w h H → RVs g w H ds xs → OKg g (RV g) w H E Q (fd ds h) → ∃ r, CallR X f r ∧ r xs H Q) : CallR X f (rC g E fd) := by
  intro pins s σ H xs us Q I rx ⟨w, h, ds, hr, ra, o⟩
  obtain ⟨r, hop, q⟩ := hh w H h ds xs Q hr ra o
  exact hop pins s σ H xs us Q I rx q
theorem rvs1 {d : D} {xs : List V} (r : RVs g w H [d] xs) : ∃ x, xs = [x] ∧ RV g w H d x := by
  cases r with | cons r1 r2 => cases r2; exact ⟨_, rfl, r1⟩
theorem rvs2 {d e : D} {xs : List V} (r : RVs g w H [d, e] xs) : ∃ x y, xs = [x, y] ∧ RV g w H d x ∧ RV g w H e y := by
  cases r with | cons r1 r2 => cases r2 with | cons r3 r4 => cases r4; exact ⟨_, _, rfl, r1, r3⟩
theorem call_lenR : CallR X (.builtin "len") (fun xs H Q => ∃ a kvs, xs = [V.ref a] ∧ Rd H a (.dK kvs) ∧ Q (.int kvs.length) H) := by
  intro pins s σ H xs us Q I r ⟨a, kvs, ex, e, q⟩
  subst ex
  obtain ⟨u, rfl, ru⟩ := vals1 r
  cases ru
  exact d_len I e fun t s' I' => ⟨.int kvs.length, H, I', ⟨t, rfl⟩, q⟩
theorem zip_reads {hp : Heap} : ∀ {ds : List D} {ps : List PyData} {vs : List V} {us : List Value} {as : List Addr}, RVs g w H ds vs → Vals vs us → ReadsAll hp us ps as →
    PySem.W.EachIs (fun u (b : D × PyData) => ∃ v, RelV v u ∧ RV g w H b.1 v) us (ds.zip ps) ∧ PySem.W.EachIs (fun u (b : D × PyData) => ∃ as, Reads hp u b.2 as) us (ds.zip ps)
  | _, _, _, _, _, .nil, .nil, .nil => ⟨.nil, .nil⟩
  | _, _, _, _, _, .cons r1 r2, .cons q1 q2, .cons z1 z2 => by
    obtain ⟨a, b⟩ := zip_reads r2 q2 z2
    exact ⟨.cons ⟨_, q1, r1⟩ a, .cons ⟨_, z1⟩ b⟩
theorem each_back : ∀ {us : List Value} {bs : List (D × PyData)}, PySem.W.EachIs (fun u (b : D × PyData) => ∃ v, RelV v u ∧ RV g w H b.1 v) us bs → ∃ vs, Vals vs us ∧ RVs g w H (bs.map (·.1)) vs
  | _, _, .nil => ⟨[], .nil, .nil⟩
  | _, _, .cons ⟨v, q, r⟩ t => by
    obtain ⟨vs, a, b⟩ := each_back t
    exact ⟨v :: vs, .cons q a, .cons r b⟩
theorem zip_snd : ∀ {ds : List D} {ps : List PyData}, ds.length = ps.length → (ds.zip ps).map (·.2) = ps
  | [], [], _ => rfl
  | d :: ds, p :: ps, e => by simp only [List.zip_cons_cons, List.map_cons]; rw [zip_snd (by simpa using e)]
  | [], _ :: _, e => by simp at e
  | _ :: _, [], e => by simp at e
theorem toPs_len {f : Nat → Option PyData} : ∀ {ds : List D} {ps : List PyData}, toPs f ds = some ps → ds.length = ps.length
  | [], _, e => by simp [toPs] at e; subst e; rfl
  | d :: ds, ps, e => by
    simp only [toPs] at e
    split at e
    · rename_i e2
      cases e
      rw [List.length_cons, List.length_cons, toPs_len e2]
    · cases e
theorem sorted_core (xo : XO g X) {pins : List (Addr × Obj)} {s : Shared} {σ : L2.St} {a : Addr} {vs : List V} {ds es : List D} (I : Inv X pins σ H s) (hr : HR g w h H) (ha : H a = some (.lst vs)) (t : RVs g w H ds vs) (e : sortedL h ds = some es)
    (q : ∀ us p, RVs g w H es us → H p = none → Q (.ref p) (upd H p (.lst us))) : wpAny (model X.prog X.w) X.A (call (.builtin "sorted") [.ref a]) (EP X pins σ Q) X.xe s := by
  unfold sortedL at e
  split at e
  · rename_i ps e1
    split at e
    · rename_i hz
      cases e
      simp only [Bool.and_eq_true, List.all_eq_true, decide_eq_true_eq] at hz
      obtain ⟨⟨h1, h2⟩, h3⟩ := hz
      obtain ⟨its, n, rv, hp, hz⟩ := lst_at I.hok ha
      obtain ⟨as, rs⟩ := toDs_reads I.hok hr e1 t rv
      have hl := toPs_len e1
      obtain ⟨z1, z2⟩ := zip_reads t rv rs
      refine PySem.W.sorted_data (enc := fun b : D × PyData => b.2) ⟨_, hp, rfl, n, rfl⟩ z1 z2 (by rw [zip_snd hl]; exact alikes_ok h1) (by rw [zip_snd hl]; exact sortable_ok h2) ?_ (fun b hb => ?_) (fun out ho hout => ?_)
      · rw [List.length_zip, hl, Nat.min_self, ← hl, t.length]; exact hz
      · have hb2 : b.2 ∈ ps := (List.of_mem_zip hb).2
        have := h3 _ hb2
        have := xo.un
        omega
      · obtain ⟨us, k1, k2⟩ := each_back hout
        obtain ⟨ep, he'⟩ := PyProof.Rows.sortedAll_at s.heap its out.toArray
        have hlen : us.length ≤ sizeLine := by
          rw [k1.length, ho, List.length_zip, hl, Nat.min_self, ← hl, t.length]; exact hz
        exact ⟨.ref _, upd H (s.heap.objs.size + 1) (.lst us), I.laid (t' := s.toks) (fun _ _ => PyProof.Rows.sortedAll_old) (Nat.le_succ _) ⟨hlen, out, ep, k1, he'⟩, rfl, q us _ k2 (I.hok.fresh (Nat.le_succ _))⟩
    · cases e
  · cases e
def rSrt (g : Gx) : List V → Hp → VK → Prop := fun xs H Q => ∃ w h a vs ds es, xs = [V.ref a] ∧ HR g w h H ∧ H a = some (.lst vs) ∧ RVs g w H ds vs ∧ sortedL h ds = some es ∧ ∀ us p, RVs g w H es us → H p = none → Q (.ref p) (upd H p (.lst us))
theorem srt_ok (xo : XO g X) : CallR X (.builtin "sorted") (rSrt g) := by
  intro pins s σ H xs us Q I r ⟨w, h, a, vs, ds, es, ex, hr, ha, t, e, q⟩
  subst ex
  obtain ⟨u, rfl, ru⟩ := vals1 r
  cases ru
  exact sorted_core xo I hr ha t e q
def rRep (g : Gx) : List V → Hp → VK → Prop := fun xs H Q => ∃ w h d x p, xs = [x] ∧ HR g w h H ∧ RV g w H d x ∧ toD h d = some p ∧ p.showable = true ∧ p.shown.length ≤ sizeLine ∧ p.depth ≤ 150 ∧ Q (.str p.shown) H
section
variable {prog : Program} {wo : World} {h₀ : Heap}
theorem RdN.reads {v : Value} {d : PyData} (r : RdN h₀ v d) : ∃ as, Reads h₀ v d as := by
  cases r with
  | leaf r _ => exact ⟨_, r⟩
  | dct0 h1 h2 h3 h4 => exact ⟨_, .dict (kvs := []) h1 h2.1 h3 .nil .nil⟩
  | dctF h1 h2 h3 i1 i2 h4 => exact ⟨_, .dict h1 h2.1 h3 i1 i2⟩
  | list h1 h2 h3 h4 _ => exact ⟨_, .list h1 h2 h3 h4⟩
  | tuple h1 h2 h3 h4 _ => exact ⟨_, .tuple h1 h2 h3 h4⟩
mutual
theorem RdN.repr : ∀ {v : Value} {d : PyData}, RdN h₀ v d → d.showable = true → d.shown.length ≤ sizeLine → ∃ bs, ReadAtMost h₀ d.depth bs ∧ ReprK prog wo bs h₀ d.depth v d.shown
  | _, _, .leaf r at_, hs, hz => ReprK.of_reads r hs (fun z => by revert at_ z; cases r <;> simp [isAt, PyData.hasDict]) hz
  | _, _, .dct0 h1 h2 h3 h4, hs, hz => ReprK.of_reads (.dict (kvs := []) h1 h2.1 h3 .nil .nil) hs (fun _ z => by simp at z h4; exact h4 z.symm) hz
  | _, _, .dctF h1 h2 h3 i1 i2 h4, hs, hz => ReprK.of_reads (.dict h1 h2.1 h3 i1 i2) hs (fun _ z => by simp at z h4; exact h4 z.symm) hz
  | _, _, .list (a := a) (vs := vs) (xs := xs) h1 h2 h3 h4 h5, hs, hz => by
    rw [PyData.shown] at hz
    obtain ⟨bs, hb, hk⟩ := RdNs.repr h5 (by rw [PyData.showable] at hs; exact hs) fun t ht => Nat.le_trans (listText_mem_le ht) hz
    have r : Reads h₀ (.ref a) (.list xs) _ := .list h1 h2 h3 h4
    refine ⟨a :: bs, ReadAtMost.cons r (by rw [PyData.depth]; omega) hb, ?_⟩
    have na : a ∉ bs := not_mem_of_deeper r (by rw [PyData.depth]; omega) hb
    rw [PyData.depth, PyData.shown]
    obtain ⟨l⟩ := vs
    cases l with
    | nil =>
      cases h5
      rw [PyData.shownAll, listText_nil]
      exact ReprK.listEmpty h1 h2 h3
    | cons x l => exact ReprK.list h1 h2 h3 na (by simpa using hk.length_eq) fun i y e => hk.item i y (by simpa using e)
  | _, _, .tuple (a := a) (xs := xs) h1 h2 h3 h4 h5, hs, hz => by
    rw [PyData.shown] at hz
    obtain ⟨bs, hb, hk⟩ := RdNs.repr h5 (by rw [PyData.showable] at hs; exact hs) fun t ht => Nat.le_trans (tupleText_mem_le ht) hz
    have r : Reads h₀ (.ref a) (.tuple xs) _ := .tuple h1 h2 h3 h4
    refine ⟨a :: bs, ReadAtMost.cons r (by rw [PyData.depth]; omega) hb, ?_⟩
    rw [PyData.depth, PyData.shown]
    exact ReprK.tuple h1 h2 h3 (not_mem_of_deeper r (by rw [PyData.depth]; omega) hb) hk
theorem RdNs.repr : ∀ {vs : List Value} {ds : List PyData}, RdNs h₀ vs ds → PyData.showableAll ds = true → (∀ t ∈ PyData.shownAll ds, t.length ≤ sizeLine) → ∃ bs, ReadAtMost h₀ (PyData.depthAll ds) bs ∧ ReprAllK prog wo bs h₀ (PyData.depthAll ds) vs (PyData.shownAll ds)
  | _, _, .nil, _, _ => ⟨[], fun _ h => (nomatch h), by rw [PyData.shownAll]; exact .nil⟩
  | _, _, .cons (d := d) (ds := ds) r rs, hs, hz => by
    simp only [PyData.showableAll, Bool.and_eq_true] at hs
    simp only [PyData.shownAll, List.mem_cons, forall_eq_or_imp] at hz
    obtain ⟨b1, m1, k1⟩ := RdN.repr r hs.1 hz.1
    obtain ⟨b2, m2, k2⟩ := RdNs.repr rs hs.2 hz.2
    rw [PyData.depthAll, PyData.shownAll]
    exact ⟨b1 ++ b2, (m1.mono (Nat.le_max_left _ _)).append (m2.mono (Nat.le_max_right _ _)), .cons ((k1.more fun b hb => List.mem_append_left _ hb).level_le (Nat.le_max_left _ _)) (k2.more_le (fun b hb => List.mem_append_right _ hb) (Nat.le_max_right _ _))⟩
end
theorem RdN.call {a : Addr} {d : PyData} (r : RdN h₀ (.ref a) d) (hs : d.showable = true) (hsz : d.shown.length ≤ sizeLine) {A : Around} {E : Value → Shared → Prop} {s : Shared} {Q : Value → Shared → Prop} (hg : A.guards = some []) (hu : A.units + (d.depth + 1) < cLine)
    (hk0 : ∀ b o, h₀.get? b = some o → s.heap.get? b = some o) (hQ : ∀ h' u tk, (∀ b o, s.heap.get? b = some o → h'.get? b = some o) → Q (.str d.shown u) { s with heap := h', toks := tk }) : wpAny (model prog wo) A (call (.builtin "repr") [.ref a]) Q E s := by
  cases r with
  | leaf r at_ => exact repr_of_reads' r hs (fun z => by revert at_ z; cases r <;> simp [isAt, PyData.hasDict]) hg hu hk0 hQ hsz
  | dct0 h1 h2 h3 h4 => exact repr_of_reads' (.dict (kvs := []) h1 h2.1 h3 .nil .nil) hs (fun _ z => by simp at z h4; exact h4 z.symm) hg hu hk0 hQ hsz
  | dctF h1 h2 h3 i1 i2 h4 => exact repr_of_reads' (.dict h1 h2.1 h3 i1 i2) hs (fun _ z => by simp at z h4; exact h4 z.symm) hg hu hk0 hQ hsz
  | @list _ o vs n xs as h1 h2 h3 h4 h5 =>
    rw [PyData.shown] at hsz hQ
    rw [PyData.depth] at hu
    obtain ⟨bs, hb, hk⟩ := RdNs.repr (prog := prog) (wo := wo) h5 (by rw [PyData.showable] at hs; exact hs) fun t ht => Nat.le_trans (listText_mem_le ht) hsz
    have na : a ∉ bs := not_mem_of_deeper (.list h1 h2 h3 h4) (by rw [PyData.depth]; omega) hb
    refine call_repr_slot (by omega) ⟨o, hk0 _ _ h1, h2⟩ F.slot_list_repr.toG ?_
    obtain ⟨l⟩ := vs
    cases l with
    | nil =>
      cases h5
      rw [PyData.shownAll, listText_nil] at hQ
      exact call_list_repr_empty ⟨o, hk0 _ _ h1, h2⟩ (hk0 _ _ h1) h3 ⟨_, _, rfl, hQ s.heap _ _ fun _ _ e => e⟩
    | cons x l => exact call_list_reprK h1 h2 h3 na (by simpa using hk.length_eq) (fun i y e => hk.item i y (by simpa using e)) hg (fun b _ => Clear.nil b) (by show A.units + 1 + _ < cLine; omega) hk0 (fun h' u tk hk => ⟨_, _, rfl, hQ h' u tk hk⟩) hsz
  | @tuple _ o vs n xs as h1 h2 h3 h4 h5 =>
    rw [PyData.shown] at hsz hQ
    rw [PyData.depth] at hu
    obtain ⟨bs, hb, hk⟩ := RdNs.repr (prog := prog) (wo := wo) h5 (by rw [PyData.showable] at hs; exact hs) fun t ht => Nat.le_trans (tupleText_mem_le ht) hsz
    have na : a ∉ bs := not_mem_of_deeper (.tuple h1 h2 h3 h4) (by rw [PyData.depth]; omega) hb
    refine call_repr_slot (by omega) ⟨o, hk0 _ _ h1, h2⟩ F.slot_tuple_repr ?_
    exact call_tuple_reprK h1 h2 h3 na hk hg (fun b _ => Clear.nil b) (by show A.units + 1 + _ < cLine; omega) hk0 (fun h' u tk hk => ⟨_, _, rfl, hQ h' u tk hk⟩) hsz
end
theorem rep_ok (xo : XO g X) : CallR X (.builtin "repr") (rRep g) := by
  intro pins s σ H xs us Q I r ⟨w, h, d, x, p, ex, hr, rd, e, h1, h3, h4, q⟩
  subst ex
  obtain ⟨u, rfl, ru⟩ := vals1 r
  obtain ⟨as, rs, hn⟩ := toD_reads' I.hok hr e rd ru
  have hun := xo.un
  cases rs with
  | none => exact PySem.P.repr_of_none ⟨.str _, H, I.tok _, ⟨_, rfl⟩, q⟩
  | bool b => exact PySem.P.repr_of_bool ⟨.str _, H, I.tok _, ⟨_, rfl⟩, q⟩
  | int i t => exact PySem.P.repr_of_int (by simpa [PyData.showable] using h1) ⟨.str _, H, I.tok _, ⟨_, rfl⟩, q⟩
  | str y t => exact PySem.P.repr_of_str ⟨.str _, H, I.tok _, ⟨_, rfl⟩, q⟩ h3
  | list a1 a2 a3 a4 => exact hn.call h1 h3 xo.gd (by omega) (fun _ _ e => e) (fun h' u tk hk => ⟨.str _, H, I.kept hk, ⟨_, rfl⟩, q⟩)
  | tuple a1 a2 a3 a4 => exact hn.call h1 h3 xo.gd (by omega) (fun _ _ e => e) (fun h' u tk hk => ⟨.str _, H, I.kept hk, ⟨_, rfl⟩, q⟩)
  | dict a1 a2 a3 a4 a5 => exact hn.call h1 h3 xo.gd (by omega) (fun _ _ e => e) (fun h' u tk hk => ⟨.str _, H, I.kept hk, ⟨_, rfl⟩, q⟩)
theorem bi_ok (xo : XO g X) (b : Bi) : CallR X (biV b) (rC g E (biS b)) := callr_of fun w H h ds xs Q hr ra o => by
  cases b with
  | len =>
    simp only [biS, bLen] at o
    split at o
    · obtain ⟨x, rfl, rx⟩ := rvs1 ra
      split at o
      · cases rx
        split at o
        · exact ⟨_, call_len_str, _, rfl, sz_le ‹_›, o.keep hr (.int _)⟩
        · exact o.elim
      · split at o
        · rename_i e1
          obtain ⟨p, vs, rfl, hq, t⟩ := asS_ok (K := X.K) e1 hr rx
          rw [t.length] at o
          exact ⟨_, call_len_seq, _, _, rfl, hq, o.keep hr (.int _)⟩
        · split at o
          · rename_i kds e1
            obtain ⟨p, kvs, rfl, hq, ek, t⟩ := asD_ok e1 hr rx
            have el : kds.length = kvs.length := by have := congrArg List.length ek; simpa using this.symm
            rw [el] at o
            exact ⟨_, call_lenR, _, _, rfl, hq, o.keep hr (.int _)⟩
          · exact o.elim
    · exact o.elim
  | list =>
    simp only [biS, bSeq] at o
    split at o
    · obtain ⟨x, rfl, rx⟩ := rvs1 ra
      split at o
      · rename_i e1
        obtain ⟨p, vs, rfl, hq, t⟩ := asS_ok (K := X.K) e1 hr rx
        exact ⟨_, call_list_of, _, _, rfl, hq, o.lst hr t⟩
      · exact o.elim
    · exact o.elim
  | nlist =>
    simp only [biS, bSeq] at o
    split at o
    · obtain ⟨x, rfl, rx⟩ := rvs1 ra
      split at o
      · rename_i e1
        obtain ⟨p, vs, rfl, hq, t⟩ := asS_ok (K := X.K) e1 hr rx
        exact ⟨_, call_list_of, _, _, rfl, hq, o.nlst hr t⟩
      · exact o.elim
    · exact o.elim
  | tuple =>
    simp only [biS, bSeq] at o
    split at o
    · obtain ⟨x, rfl, rx⟩ := rvs1 ra
      split at o
      · rename_i d _ ds0 e1
        by_cases hd : ∃ es, d = .tup es
        · obtain ⟨es, rfl⟩ := hd
          obtain ⟨p, vs, rfl, hq, t⟩ := rv_tup rx
          simp [asS] at e1
          subst e1
          exact ⟨_, call_tuple_of, _, _, rfl, .inr ⟨.inl (.inl hq), o.keep hr rx⟩⟩
        · have e2 : asL h d = some ds0 := by
            cases d with
            | tup es => exact absurd ⟨es, rfl⟩ hd
            | _ => exact e1
          obtain ⟨p, vs, rfl, hq, t⟩ := asL_ok e2 hr rx
          exact ⟨_, call_tuple_of, _, _, rfl, .inl ⟨.inl (.inl hq), o.tup hr t⟩⟩
      · exact o.elim
    · exact o.elim
  | sum =>
    simp only [biS, bInts] at o
    split at o
    · obtain ⟨x, rfl, rx⟩ := rvs1 ra
      split at o
      · rename_i e1
        split at o
        · rename_i e2
          obtain ⟨p, vs, rfl, hq, t⟩ := asL_ok e1 hr rx
          have e3 := intsOf_eq e2
          subst e3
          have e4 := t.toInts
          subst e4
          exact ⟨_, cr_sum xo.calm, _, _, rfl, .inl (.inl hq), o.keep hr (.int _)⟩
        · exact o.elim
      · exact o.elim
    · exact o.elim
  | max =>
    simp only [biS, bInts] at o
    split at o
    · obtain ⟨x, rfl, rx⟩ := rvs1 ra
      split at o
      · rename_i e1
        split at o
        · rename_i e2
          simp only [optI] at o
          split at o
          · rename_i e5
            obtain ⟨p, vs, rfl, hq, t⟩ := asL_ok e1 hr rx
            have e3 := intsOf_eq e2
            subst e3
            have e4 := t.toInts
            subst e4
            refine ⟨_, cr_max xo.calm, _, _, rfl, .inl (.inl hq), ?_, fun m m1 m2 => ?_⟩
            · refine Nat.pos_of_ne_zero fun z => ?_
              rw [List.length_eq_zero_iff.mp z] at e5
              cases e5
            · rw [maxI_of e5 m1 m2]
              exact o.keep hr (.int _)
          · exact o.elim
        · exact o.elim
      · exact o.elim
    · exact o.elim
  | min =>
    simp only [biS, bInts] at o
    split at o
    · obtain ⟨x, rfl, rx⟩ := rvs1 ra
      split at o
      · rename_i e1
        split at o
        · rename_i e2
          simp only [optI] at o
          split at o
          · rename_i e5
            obtain ⟨p, vs, rfl, hq, t⟩ := asL_ok e1 hr rx
            have e3 := intsOf_eq e2
            subst e3
            have e4 := t.toInts
            subst e4
            refine ⟨_, cr_min xo.calm, _, _, rfl, .inl (.inl hq), ?_, fun m m1 m2 => ?_⟩
            · refine Nat.pos_of_ne_zero fun z => ?_
              rw [List.length_eq_zero_iff.mp z] at e5
              cases e5
            · rw [minI_of e5 m1 m2]
              exact o.keep hr (.int _)
          · exact o.elim
        · exact o.elim
      · exact o.elim
    · exact o.elim
  | abs =>
    simp only [biS, bAbs] at o
    split at o
    · obtain ⟨x, rfl, rx⟩ := rvs1 ra
      cases rx
      exact ⟨_, call_abs, _, rfl, o.keep hr (.int _)⟩
    · exact o.elim
  | int =>
    simp only [biS, bInt] at o
    split at o
    · obtain ⟨x, rfl, rx⟩ := rvs1 ra
      cases rx
      exact ⟨_, call_int1, .inl ⟨_, rfl, o.keep hr (.int _)⟩⟩
    · obtain ⟨x, rfl, rx⟩ := rvs1 ra
      cases rx
      exact ⟨_, call_int1, .inr ⟨_, rfl, o.keep hr (.int _)⟩⟩
    · exact o.elim
  | sorted =>
    simp only [biS, bSrt] at o
    split at o
    · obtain ⟨x, rfl, rx⟩ := rvs1 ra
      split at o
      · rename_i e1
        split at o
        · rename_i e2
          obtain ⟨p, vs, rfl, hq, t⟩ := asL_ok e1 hr rx
          exact ⟨_, srt_ok xo, w, h, p, vs, _, _, rfl, hr, hq, t, e2, fun us q ru hq => o.lst hr ru q hq⟩
        · exact o.elim
      · exact o.elim
    · exact o.elim
  | nsorted =>
    simp only [biS, bSrt] at o
    split at o
    · obtain ⟨x, rfl, rx⟩ := rvs1 ra
      split at o
      · rename_i e1
        split at o
        · rename_i e2
          obtain ⟨p, vs, rfl, hq, t⟩ := asL_ok e1 hr rx
          exact ⟨_, srt_ok xo, w, h, p, vs, _, _, rfl, hr, hq, t, e2, fun us q ru hq => o.nlst hr ru q hq⟩
        · exact o.elim
      · exact o.elim
    · exact o.elim
  | repr =>
    simp only [biS, bRepr] at o
    split at o
    · obtain ⟨x, rfl, rx⟩ := rvs1 ra
      split at o
      · rename_i e1
        split at o
        · rename_i hz
          simp only [Bool.and_eq_true, Bool.or_eq_true, decide_eq_true_eq, Bool.not_eq_true'] at hz
          obtain ⟨⟨h1, h3⟩, h4⟩ := hz
          exact ⟨_, rep_ok xo, w, h, _, _, _, rfl, hr, rx, e1, h1, sz_le h3, h4, o.keep hr (.str _)⟩
        · exact o.elim
      · exact o.elim
    · exact o.elim
  | all =>
    simp only [biS, bBls] at o
    split at o
    · obtain ⟨x, rfl, rx⟩ := rvs1 ra
      split at o
      · rename_i e1
        split at o
        · rename_i e2
          obtain ⟨p, vs, rfl, hq, t⟩ := asL_ok e1 hr rx
          have e3 := blsOf_eq e2
          subst e3
          have e4 := t.toBls
          subst e4
          exact ⟨_, cr_all xo.calm, _, _, rfl, .inl (.inl hq), o.keep hr (.bl _)⟩
        · exact o.elim
      · exact o.elim
    · exact o.elim
  | any =>
    simp only [biS, bBls] at o
    split at o
    · obtain ⟨x, rfl, rx⟩ := rvs1 ra
      split at o
      · rename_i e1
        split at o
        · rename_i e2
          obtain ⟨p, vs, rfl, hq, t⟩ := asL_ok e1 hr rx
          have e3 := blsOf_eq e2
          subst e3
          have e4 := t.toBls
          subst e4
          exact ⟨_, cr_any xo.calm, _, _, rfl, .inl (.inl hq), o.keep hr (.bl _)⟩
        · exact o.elim
      · exact o.elim
    · exact o.elim
  | isi =>
    simp only [biS, bIsi] at o
    split at o
    · obtain ⟨x, y, rfl, rx, ry⟩ := rvs2 ra
      cases ry
      split at o
      · rename_i e1
        split at o
        · rename_i e2
          exact ⟨_, call_isi, _, _, _, _, _, rfl, .ty _, tyN_ok e1 hr rx, kit_ty e2, o.keep hr (.bl _)⟩
        · exact o.elim
      · exact o.elim
    · exact o.elim
end
end Bx
namespace Bx
open PySem PySem.Spec PyProof.Rows L2

abbrev Fn := Rho → Hh → Res D
abbrev Ft := Rho → Hh → Res Bool
abbrev Fl := Rho → Hh → Res (List D)

section
variable {α β : Type} {g : Gx} {W : WX} {X : Cx} {w : Wd} {ρ : Rho} {h : Hh} {σ : L2.St} {H : Hp} {R' : Wd → Hp → α → β → Prop} {Q2 : β → Hp → Prop}
theorem tI_go {f : Fn} {k : D → Hh → Res α} (s : SR g w ρ h σ H) (o : OKg g R' w H (wAt W σ) Q2 ((f ρ h).bind k)) {Q : VK}
    (hq : ∀ V H1 w1 a h1, Later w H w1 H1 → SR g w1 ρ h1 σ H1 → RV g w1 H1 a V → OKg g R' w1 H1 (wAt W σ) Q2 (k a h1) → Q V H1) : tI g W f σ H Q :=
  ⟨w, ρ, h, s, (OKg.bind o).imp fun V H1 ⟨w1, a, h1, l, hr, rv, o1⟩ => hq V H1 w1 a h1 l (s.step l hr) rv o1⟩
theorem tT_go {f : Ft} {k : Bool → Hh → Res α} (s : SR g w ρ h σ H) (o : OKg g R' w H (wAt W σ) Q2 ((f ρ h).bind k)) {Q : Bool → Hp → Prop}
    (hq : ∀ b H1 w1 h1, Later w H w1 H1 → SR g w1 ρ h1 σ H1 → OKg g R' w1 H1 (wAt W σ) Q2 (k b h1) → Q b H1) : tT g W f σ H Q :=
  ⟨w, ρ, h, s, (OKg.bind (R := RB) o).imp fun b H1 ⟨w1, a, h1, l, hr, rv, o1⟩ => by cases rv; exact hq b H1 w1 h1 l (s.step l hr) o1⟩
theorem tL_go {f : Fl} {k : List D → Hh → Res α} (s : SR g w ρ h σ H) (o : OKg g R' w H (wAt W σ) Q2 ((f ρ h).bind k)) {Q : List V → Hp → Prop}
    (hq : ∀ Vs H1 w1 ds h1, Later w H w1 H1 → SR g w1 ρ h1 σ H1 → RVs g w1 H1 ds Vs → OKg g R' w1 H1 (wAt W σ) Q2 (k ds h1) → Q Vs H1) : tL g W f σ H Q :=
  ⟨w, ρ, h, s, (OKg.bind o).imp fun V H1 ⟨w1, a, h1, l, hr, rv, o1⟩ => hq V H1 w1 a h1 l (s.step l hr) rv o1⟩
end

def xV (i : Nat) : Fn := fun ρ h => match ρ[i]? with | some (some d) => .ok d h | _ => .bad
def xC (d : D) : Fn := fun _ h => .ok d h
def xBin (op : D → D → Hh → Res D) (a b : Fn) : Fn := fun ρ h => (a ρ h).bind fun x h1 => (b ρ h1).bind fun y h2 => op x y h2
def negD (a : D) (h : Hh) : Res D := match a with | .int i => .ok (.int (-i)) h | _ => .bad
def xUn (op : D → Hh → Res D) (a : Fn) : Fn := fun ρ h => (a ρ h).bind fun x h1 => op x h1
def xNil : Fl := fun _ h => .ok [] h
def xCons (a : Fn) (r : Fl) : Fl := fun ρ h => (a ρ h).bind fun x h1 => (r ρ h1).bind fun xs h2 => .ok (x :: xs) h2
def xTup (a : Fl) : Fn := fun ρ h => (a ρ h).bind fun ds h1 => if sz ds.length then .ok (.tup ds) h1 else .bad
def xLst (a : Fl) : Fn := fun ρ h => (a ρ h).bind fun ds h1 => if sz ds.length then .ok (.lst ds) h1 else .bad
def xNlst (a : Fl) : Fn := fun ρ h => (a ρ h).bind fun ds h1 => if sz ds.length then .ok (.ref h1.length) (h1 ++ [.lst ds]) else .bad
def xDct0 : Fn := fun _ h => .ok (.dct []) h
def xNdct0 : Fn := fun _ h => .ok (.ref h.length) (h ++ [.dct []])
def isB (d : D) (h : Hh) : Res Bool := match d with | .bl b => .ok b h | _ => .bad
def xAnd (a b : Fn) : Fn := fun ρ h => (a ρ h).bind fun x h1 => (isB x h1).bind fun c h2 => if c then b ρ h2 else .ok (.bl false) h2
def xOr (a b : Fn) : Fn := fun ρ h => (a ρ h).bind fun x h1 => (isB x h1).bind fun c h2 => if c then .ok (.bl true) h2 else b ρ h2
def xNot (a : Fn) : Fn := fun ρ h => (a ρ h).bind fun x h1 => (isB x h1).bind fun c h2 => .ok (.bl (!c)) h2
def xIfe (t : Ft) (a b : Fn) : Fn := fun ρ h => (t ρ h).bind fun c h1 => if c then a ρ h1 else b ρ h1
def xChain (op op' : D → D → Hh → Res D) (a b c : Fn) : Fn := fun ρ h => (a ρ h).bind fun x h1 => (b ρ h1).bind fun y h2 => (op x y h2).bind fun z h3 => (isB z h3).bind fun k h4 => if k then (c ρ h4).bind fun u h5 => op' y u h5 else .ok (.bl false) h4
def xIdx (a b : Fn) : Fn := xBin idxD a b
/-- a slice's part -/
abbrev Fo := Rho → Hh → Res (Option Int)
def xNo : Fo := fun _ h => .ok none h
def isI (d : D) (h : Hh) : Res (Option Int) := match d with | .int i => .ok (some i) h | _ => .bad
def xSome (a : Fn) : Fo := fun ρ h => (a ρ h).bind fun x h1 => isI x h1
def xSlc (a : Fn) (lo hi : Fo) : Fn := fun ρ h => (a ρ h).bind fun x h1 => (lo ρ h1).bind fun l h2 => (hi ρ h2).bind fun u h3 => slcD x l u h3
def xBi (b : Bi) (a : Fl) : Fn := fun ρ h => (a ρ h).bind fun ds h1 => biS b ds h1
def xCall (n : Nat) (c : List D → Hh → Res D) (a : Fl) : Fn := fun ρ h => (a ρ h).bind fun ds h1 => if ds.length = n then c ds h1 else .bad
def yV (a : Fn) : Ft := fun ρ h => (a ρ h).bind fun x h1 => isB x h1
def yAnd (a b : Ft) : Ft := fun ρ h => (a ρ h).bind fun c h1 => if c then b ρ h1 else .ok false h1
def yOr (a b : Ft) : Ft := fun ρ h => (a ρ h).bind fun c h1 => if c then .ok true h1 else b ρ h1
def yNot (a : Ft) : Ft := fun ρ h => (a ρ h).bind fun c h1 => .ok (!c) h1
def yYes : Ft := fun _ h => .ok true h

section
variable {g : Gx} {W : WX} {X : Cx} {a b c : Expr} {pos p p2 : Pos} {fa fb fc : Fn} {es : List Expr} {fs : Fl}
theorem q_var {i : Nat} {x : Str} (hp : PE X (.Name x pos) (tVar i)) : PE X (.Name x pos) (tI g W (xV i)) := ⟨fun pins s σ H Q I ⟨w, ρ, h, sr, o⟩ => by
  unfold xV at o
  split at o
  · rename_i d e
    obtain ⟨v, e1, rv⟩ := sr.rs i d e
    exact hp.run pins s σ H Q I ⟨v, e1, o.keep sr.hr rv⟩
  · exact o.elim⟩
theorem q_c {e : Expr} {d : D} {v : V} (hp : PE X e (tC v)) (hd : ∀ w H, RV g w H d v) : PE X e (tI g W (xC d)) := ⟨fun pins s σ H Q I ⟨w, ρ, h, sr, o⟩ => hp.run pins s σ H Q I (o.keep sr.hr (hd w H))⟩
theorem q_int {i : Int} {j : Nat} : PE X (.Constant (.int i) j pos) (tI g W (xC (.int i))) := q_c pe_int fun _ _ => .int i
theorem q_str {i : Str} {j : Nat} : PE X (.Constant (.str i) j pos) (tI g W (xC (.str i))) := q_c pe_str fun _ _ => .str i
theorem q_bl {i : Bool} {j : Nat} : PE X (.Constant (.bool i) j pos) (tI g W (xC (.bl i))) := q_c pe_bl fun _ _ => .bl i
theorem q_non {j : Nat} : PE X (.Constant .none j pos) (tI g W (xC .non)) := q_c pe_non fun _ _ => .non
theorem q_bin {op : Operator} {f : D → D → Hh → Res D} (ho : ∀ E, OpR X (binaryOp op) (rD g E f)) (ha : PE X a (tI g W fa)) (hb : PE X b (tI g W fb)) : PE X (.BinOp a op b pos) (tI g W (xBin f fa fb)) :=
  ⟨fun pins s σ H Q I ⟨w, ρ, h, sr, o⟩ => (pe_op (ho (wAt W σ)) ha hb).run pins s σ H Q I (tI_go sr o fun V H1 w1 a h1 l sr1 rv o1 => tI_go sr1 o1 fun V2 H2 w2 b h2 l2 sr2 rv2 o2 => ⟨w2, h2, a, b, sr2.hr, rv.mono l2, rv2, o2⟩)⟩
theorem q_neg (ha : PE X a (tI g W fa)) : PE X (.UnaryOp .USub a pos) (tI g W (xUn negD fa)) :=
  ⟨fun pins s σ H Q I ⟨w, ρ, h, sr, o⟩ => (pe_un un_neg ha).run pins s σ H Q I (tI_go sr o fun V H1 w1 a h1 l sr1 rv o1 => by
    unfold negD at o1
    split at o1
    · cases rv
      exact ⟨_, rfl, o1.keep sr1.hr (.int _)⟩
    · exact o1.elim)⟩
theorem q_cmp {op : CmpOp} {f : D → D → Hh → Res D} (ho : ∀ E, OpR X (compareOp op) (rD g E f)) (ha : PE X a (tI g W fa)) (hb : PE X b (tI g W fb)) (hm : behindInMarks op b = false := by rfl) : PE X (.Compare a [op] [b] pos) (tI g W (xBin f fa fb)) :=
  ⟨fun pins s σ H Q I ⟨w, ρ, h, sr, o⟩ => (pe_cmpR (ho (wAt W σ)) ha hb hm).run pins s σ H Q I (tI_go sr o fun V H1 w1 a h1 l sr1 rv o1 => tI_go sr1 o1 fun V2 H2 w2 b h2 l2 sr2 rv2 o2 => ⟨w2, h2, a, b, sr2.hr, rv.mono l2, rv2, o2⟩)⟩
theorem q_nil : PA X [] (tL g W xNil) := ⟨fun ps pins s σ H Q I ⟨w, ρ, h, sr, o⟩ => pa_nil.run ps pins s σ H Q I (o w H [] (Later.refl w H) sr.hr .nil)⟩
theorem q_cons (ha : PE X a (tI g W fa)) (hr : PA X es (tL g W fs)) (hs : starEach (a :: es) X.env = (false, eval a X.env) :: starEach es X.env := by rfl) : PA X (a :: es) (tL g W (xCons fa fs)) :=
  ⟨fun ps pins s σ H Q I ⟨w, ρ, h, sr, o⟩ => (pa_cons ha hr hs).run ps pins s σ H Q I (tI_go sr o fun V H1 w1 a h1 l sr1 rv o1 => tL_go sr1 o1 fun Vs H2 w2 ds h2 l2 sr2 rvs o2 => o2 w2 H2 (V :: Vs) (Later.refl w2 H2) sr2.hr (.cons (rv.mono l2) rvs))⟩
theorem q_tup {k : Nat} (ha : PA X es (tL g W fs)) : PE X (.Tuple es k pos) (tI g W (xTup fs)) :=
  ⟨fun pins s σ H Q I ⟨w, ρ, h, sr, o⟩ => (pe_tup ha).run pins s σ H Q I (tL_go sr o fun Vs H1 w1 ds h1 l sr1 rvs o1 => by
    split at o1
    · rename_i hz
      rw [rvs.length] at hz
      exact ⟨sz_le hz, o1.tup sr1.hr rvs⟩
    · exact o1.elim)⟩
theorem q_lst (ha : PA X es (tL g W fs)) : PE X (.List es pos) (tI g W (xLst fs)) :=
  ⟨fun pins s σ H Q I ⟨w, ρ, h, sr, o⟩ => (pe_lst ha).run pins s σ H Q I (tL_go sr o fun Vs H1 w1 ds h1 l sr1 rvs o1 => by
    split at o1
    · rename_i hz
      rw [rvs.length] at hz
      exact ⟨sz_le hz, o1.lst sr1.hr rvs⟩
    · exact o1.elim)⟩
theorem q_nlst (ha : PA X es (tL g W fs)) : PE X (.List es pos) (tI g W (xNlst fs)) :=
  ⟨fun pins s σ H Q I ⟨w, ρ, h, sr, o⟩ => (pe_lst ha).run pins s σ H Q I (tL_go sr o fun Vs H1 w1 ds h1 l sr1 rvs o1 => by
    split at o1
    · rename_i hz
      rw [rvs.length] at hz
      exact ⟨sz_le hz, o1.nlst sr1.hr rvs⟩
    · exact o1.elim)⟩
/-- a new thing is locked behind its making -/
def tLockN (t : TE) : TE := fun σ H Q => t σ H fun v H' => ∃ d u, v = .ref d ∧ H' d = some u ∧ Mut (some u) ∧ ∀ ob, Q v (upd H' d (.frz ob u))
theorem pe_lockN {e : Expr} {t : TE} (h : PE X e t) : PE X e (tLockN t) := ⟨fun pins s σ H Q I hw => thn (h.run pins s σ H _ I hw) fun v s1 ⟨x, H1, I1, r, d, u, ex, hd, mu, q⟩ => by
  obtain ⟨ob, I2⟩ := I1.lock hd mu
  exact ⟨x, _, I2, r, q ob⟩⟩
theorem upd_twice {H : Hp} {p : Addr} {a b : HO} : upd (upd H p a) p b = upd H p b := by
  funext x
  by_cases e : x = p
  · subst e; rw [upd_same, upd_same]
  · rw [upd_ne e, upd_ne e, upd_ne e]
theorem q_dct0 : PE X (.Dict [] [] pos) (tI g W xDct0) := ⟨fun pins s σ H Q I ⟨w, ρ, h, sr, o⟩ => (pe_lockN pe_dnewK).run pins s σ H Q I fun p hp => ⟨p, _, rfl, upd_same, trivial, fun ob => by
  rw [upd_twice]
  exact OKg.dct (kvs := []) o sr.hr rfl .nil p ob hp⟩⟩
theorem q_ndct0 : PE X (.Dict [] [] pos) (tI g W xNdct0) := ⟨fun pins s σ H Q I ⟨w, ρ, h, sr, o⟩ => pe_dnewK.run pins s σ H Q I (OKg.ndct (kvs := []) (kds := []) o sr.hr rfl .nil)⟩
theorem isB_go {E : XK} {α β : Type} {R' : Wd → Hp → α → β → Prop} {Q2 : β → Hp → Prop} {w : Wd} {H : Hp} {d : D} {h : Hh} {V : V} {k : Bool → Hh → Res α} (o : OKg g R' w H E Q2 ((isB d h).bind k)) (rv : RV g w H d V) : ∃ b, V = .bl b ∧ OKg g R' w H E Q2 (k b h) := by
  cases d with
  | bl b => cases rv; exact ⟨b, rfl, o⟩
  | _ => exact o.elim
theorem q_one {op : BoolOp} (ha : PE X a (tI g W fa)) : PE X (.BoolOp op [a] pos) (tI g W fa) := pe_one ha
theorem q_and {rest : List Expr} (ha : PE X a (tI g W fa)) (hb : PE X (.BoolOp .And (b :: rest) pos) (tI g W fb)) : PE X (.BoolOp .And (a :: b :: rest) pos) (tI g W (xAnd fa fb)) :=
  ⟨fun pins s σ H Q I ⟨w, ρ, h, sr, o⟩ => (pe_and ha hb).run pins s σ H Q I (tI_go sr o fun V H1 w1 a h1 l sr1 rv o1 => by
    obtain ⟨c, rfl, o2⟩ := isB_go o1 rv
    refine ⟨c, rfl, ?_⟩
    cases c with
    | true => exact ⟨w1, ρ, h1, sr1, o2⟩
    | false => exact o2.keep sr1.hr (.bl false))⟩
theorem q_or {rest : List Expr} (ha : PE X a (tI g W fa)) (hb : PE X (.BoolOp .Or (b :: rest) pos) (tI g W fb)) : PE X (.BoolOp .Or (a :: b :: rest) pos) (tI g W (xOr fa fb)) :=
  ⟨fun pins s σ H Q I ⟨w, ρ, h, sr, o⟩ => (pe_or ha hb).run pins s σ H Q I (tI_go sr o fun V H1 w1 a h1 l sr1 rv o1 => by
    obtain ⟨c, rfl, o2⟩ := isB_go o1 rv
    refine ⟨c, rfl, ?_⟩
    cases c with
    | false => exact ⟨w1, ρ, h1, sr1, o2⟩
    | true => exact o2.keep sr1.hr (.bl true))⟩
theorem q_not (ha : PE X a (tI g W fa)) : PE X (.UnaryOp .Not a pos) (tI g W (xNot fa)) :=
  ⟨fun pins s σ H Q I ⟨w, ρ, h, sr, o⟩ => (pe_not ha).run pins s σ H Q I (tI_go sr o fun V H1 w1 a h1 l sr1 rv o1 => by
    obtain ⟨c, rfl, o2⟩ := isB_go o1 rv
    exact ⟨c, rfl, o2.keep sr1.hr (.bl _)⟩)⟩
theorem q_ife {t : Ft} (ht : PT X c (tT g W t)) (ha : PE X a (tI g W fa)) (hb : PE X b (tI g W fb)) : PE X (.IfExp c a b pos) (tI g W (xIfe t fa fb)) :=
  ⟨fun pins s σ H Q I ⟨w, ρ, h, sr, o⟩ => (pe_ifExp ht ha hb).run pins s σ H Q I (tT_go sr o fun c H1 w1 h1 l sr1 o1 => by
    cases c with
    | true => exact ⟨w1, ρ, h1, sr1, o1⟩
    | false => exact ⟨w1, ρ, h1, sr1, o1⟩)⟩
theorem q_idx (xo : XO g X) (ha : PE X a (tI g W fa)) (hb : PE X b (tI g W fb)) (hs : PlainIx b := by intro _ _; rfl) : PE X (.Subscript a b pos) (tI g W (xIdx fa fb)) :=
  ⟨fun pins s σ H Q I ⟨w, ρ, h, sr, o⟩ => (idx_ok (E := wAt W σ) xo ha hb hs).run pins s σ H Q I (tI_go sr o fun V H1 w1 a h1 l sr1 rv o1 => tI_go sr1 o1 fun V2 H2 w2 b h2 l2 sr2 rv2 o2 => ⟨w2, h2, a, b, sr2.hr, rv.mono l2, rv2, o2⟩)⟩
abbrev RO : Wd → Hp → Option Int → Option Int → Prop := fun _ _ a b => a = b
def tO (g : Gx) (W : WX) (f : Fo) : TO := fun σ H Q => ∃ w ρ h, SR g w ρ h σ H ∧ OKg g RO w H (wAt W σ) Q (f ρ h)
theorem q_no : PO X none (tO g W xNo) := ⟨fun pins s σ H Q I ⟨w, ρ, h, sr, o⟩ => po_none.run pins s σ H Q I (o w H none (Later.refl w H) sr.hr rfl)⟩
theorem q_some (ha : PE X a (tI g W fa)) : PO X (some a) (tO g W (xSome fa)) := ⟨fun pins s σ H Q I ⟨w, ρ, h, sr, o⟩ => (po_some ha).run pins s σ H Q I (tI_go sr o fun V H1 w1 a h1 l sr1 rv o1 => by
  unfold isI at o1
  split at o1
  · cases rv
    exact ⟨_, rfl, o1 w1 H1 _ (Later.refl w1 H1) sr1.hr rfl⟩
  · exact o1.elim)⟩
theorem tO_go {α β : Type} {R' : Wd → Hp → α → β → Prop} {Q2 : β → Hp → Prop} {w : Wd} {ρ : Rho} {h : Hh} {σ : L2.St} {H : Hp} {f : Fo} {k : Option Int → Hh → Res α} (s : SR g w ρ h σ H) (o : OKg g R' w H (wAt W σ) Q2 ((f ρ h).bind k)) {Q : Option Int → Hp → Prop}
    (hq : ∀ b H1 w1 h1, Later w H w1 H1 → SR g w1 ρ h1 σ H1 → OKg g R' w1 H1 (wAt W σ) Q2 (k b h1) → Q b H1) : tO g W f σ H Q :=
  ⟨w, ρ, h, s, (OKg.bind (R := RO) o).imp fun b H1 ⟨w1, a, h1, l, hr, rv, o1⟩ => by cases rv; exact hq b H1 w1 h1 l (s.step l hr) o1⟩
theorem q_slc (xo : XO g X) {lo hi : Option Expr} {fl fh : Fo} (ha : PE X a (tI g W fa)) (hl : PO X lo (tO g W fl)) (hh : PO X hi (tO g W fh)) : PE X (.Subscript a (.Slice lo hi none p2) pos) (tI g W (xSlc fa fl fh)) :=
  ⟨fun pins s σ H Q I ⟨w, ρ, h, sr, o⟩ => (pe_slice (slc_ok (E := wAt W σ) xo) ha hl hh).run pins s σ H Q I (tI_go sr o fun V H1 w1 a h1 l sr1 rv o1 => tO_go sr1 o1 fun lo H2 w2 h2 l2 sr2 o2 => tO_go sr2 o2 fun hi H3 w3 h3 l3 sr3 o3 => ⟨w3, h3, a, sr3.hr, (rv.mono l2).mono l3, o3⟩)⟩
/-- a built-in function or type, called by its name -/
theorem q_bi (xo : XO g X) (bi : Bi) {x : Str} (hg : Gl X x) (hm : X.mg x = none) (hx : x = biN bi) (ha : PA X (a :: es) (tL g W fs)) (he : starEach (a :: es) X.env = (false, eval a X.env) :: starEach es X.env := by rfl)
    (hpl : (backTo pos (starEach es X.env)).any (·.1) = false := by rfl) : PE X (.Call (.Name x p) (a :: es) [] pos) (tI g W (xBi bi fs)) := by
  have hv : bootBuiltins x = some (biV bi) := by rw [hx]; exact bi_boot bi
  have hn : x ≠ "__name__" := by rw [hx]; cases bi <;> decide +kernel
  have hd : (x == ("__debug__" : Str)) = false := by rw [hx]; cases bi <;> decide +kernel
  have hp : ∀ E, PE X (.Call (.Name x p) (a :: es) [] pos) (tCB (rC g E (biS bi)) (tL g W fs)) := fun E => by
    have hc := bi_ok (E := E) xo bi
    cases bi <;> first | exact pe_callB hc hg hm hv ha hn hd he hpl | exact pe_callTy hc hg hm hv ha hn hd he hpl
  exact ⟨fun pins s σ H Q I ⟨w, ρ, h, sr, o⟩ => (hp (wAt W σ)).run pins s σ H Q I (tL_go sr o fun Vs H1 w1 ds h1 l sr1 rvs o1 => ⟨w1, h1, ds, sr1.hr, rvs, o1⟩)⟩
theorem q_tv {e : Expr} (ha : PE X e (tI g W fa)) (he : ∀ whole, isTrue e X.env whole = (do let v ← whole; standAt e.pos; holding [v] (truthy v)) := by intro _; rfl) : PT X e (tT g W (yV fa)) :=
  ⟨fun pins s σ H Q I ⟨w, ρ, h, sr, o⟩ => (pt_val ha he).run pins s σ H Q I (tI_go (k := fun x h1 => isB x h1) sr o fun V H1 w1 a h1 l sr1 rv o1 => by
    unfold isB at o1
    split at o1
    · cases rv
      exact ⟨_, rfl, o1 w1 H1 _ (Later.refl w1 H1) sr1.hr rfl⟩
    · exact o1.elim)⟩
theorem q_tcmp {op : CmpOp} {f : D → D → Hh → Res D} (ho : ∀ E, OpR X (compareOp op) (rD g E f)) (ha : PE X a (tI g W fa)) (hb : PE X b (tI g W fb)) (hm : behindInMarks op b = false := by rfl) : PT X (.Compare a [op] [b] pos) (tT g W (yV (xBin f fa fb))) :=
  ⟨fun pins s σ H Q I ⟨w, ρ, h, sr, o⟩ => by
    refine (pt_cmpR (ho (wAt W σ)) ha hb hm).run pins s σ H Q I ?_
    have o' : OKg g (RV g) w H (wAt W σ) (fun V H1 => ∃ k, V = .bl k ∧ Q k H1) (xBin f fa fb ρ h) := (OKg.bind (R := RV g) o).imp fun V H1 ⟨w1, x, h1, l, hr, rv, o1⟩ => by
      unfold isB at o1
      split at o1
      · cases rv
        exact ⟨_, rfl, o1 w1 H1 _ (Later.refl w1 H1) hr rfl⟩
      · exact o1.elim
    exact tI_go sr o' fun V H1 w1 a h1 l sr1 rv o1 => tI_go sr1 o1 fun V2 H2 w2 b h2 l2 sr2 rv2 o2 => ⟨w2, h2, a, b, sr2.hr, rv.mono l2, rv2, o2⟩⟩
theorem q_tnot {t : Ft} (ha : PT X a (tT g W t)) : PT X (.UnaryOp .Not a pos) (tT g W (yNot t)) :=
  ⟨fun pins s σ H Q I ⟨w, ρ, h, sr, o⟩ => (pt_not ha).run pins s σ H Q I (tT_go sr o fun c H1 w1 h1 l sr1 o1 => o1 w1 H1 _ (Later.refl w1 H1) sr1.hr rfl)⟩
theorem q_tand {rest : List Expr} {t u : Ft} (ha : PT X a (tT g W t)) (hb : PW X (.BoolOp .And (b :: rest) pos) (tT g W u)) : PW X (.BoolOp .And (a :: b :: rest) pos) (tT g W (yAnd t u)) :=
  ⟨fun wh pins s σ H Q I ⟨w, ρ, h, sr, o⟩ => (pw_and ha hb).run wh pins s σ H Q I (tT_go sr o fun c H1 w1 h1 l sr1 o1 => by
    cases c with
    | true => exact ⟨w1, ρ, h1, sr1, o1⟩
    | false => exact o1 w1 H1 _ (Later.refl w1 H1) sr1.hr rfl)⟩
theorem q_tor {rest : List Expr} {t u : Ft} (ha : PT X a (tT g W t)) (hb : PW X (.BoolOp .Or (b :: rest) pos) (tT g W u)) : PW X (.BoolOp .Or (a :: b :: rest) pos) (tT g W (yOr t u)) :=
  ⟨fun wh pins s σ H Q I ⟨w, ρ, h, sr, o⟩ => (pw_or ha hb).run wh pins s σ H Q I (tT_go sr o fun c H1 w1 h1 l sr1 o1 => by
    cases c with
    | false => exact ⟨w1, ρ, h1, sr1, o1⟩
    | true => exact o1 w1 H1 _ (Later.refl w1 H1) sr1.hr rfl)⟩
theorem q_tchain {op op' : CmpOp} {f f' : D → D → Hh → Res D} (ha : PE X a (tI g W fa)) (hb : PE X b (tI g W fb)) (hc : PE X c (tI g W fc))
    {tt : L2.St → TT} (hp : ∀ σ, PT X (.Compare a [op, op'] [b, c] pos) (tt σ)) (hq : ∀ σ H Q, tI g W (xChain f f' fa fb fc) σ H (fun V H1 => ∃ k, V = .bl k ∧ Q k H1) → tt σ σ H Q) : PT X (.Compare a [op, op'] [b, c] pos) (tT g W (yV (xChain f f' fa fb fc))) :=
  ⟨fun pins s σ H Q I ⟨w, ρ, h, sr, o⟩ => by
    refine (hp σ).run pins s σ H Q I (hq σ H Q ⟨w, ρ, h, sr, ?_⟩)
    exact (OKg.bind (R := RV g) o).imp fun V H1 ⟨w1, x, h1, l, hr, rv, o1⟩ => by
      unfold isB at o1
      split at o1
      · cases rv
        exact ⟨_, rfl, o1 w1 H1 _ (Later.refl w1 H1) hr rfl⟩
      · exact o1.elim⟩
end
end Bx
namespace Bx
open PySem PySem.Spec PyProof.Rows L2

inductive SRes where
  | nx (ρ : Rho) (h : Hh)
  | rt (d : D) (h : Hh)
  | bk (ρ : Rho) (h : Hh)
  | ct (ρ : Rho) (h : Hh)
  | exc (c : Str) (ds : List D) (ρ : Rho) (h : Hh)
  | bad
abbrev Fs := Rho → Hh → SRes
def OKs (g : Gx) (w : Wd) (H : Hp) (W : WX) (Dn : Ends) : SRes → Prop
  | .nx ρ h => ∀ w' H' σ', Later w H w' H' → SR g w' ρ h σ' H' → Dn.nx σ' H'
  | .rt d h => ∀ w' H' v, Later w H w' H' → HR g w' h H' → RV g w' H' d v → Dn.rt v H'
  | .bk ρ h => ∀ w' H' σ', Later w H w' H' → SR g w' ρ h σ' H' → Dn.bk σ' H'
  | .ct ρ h => ∀ w' H' σ', Later w H w' H' → SR g w' ρ h σ' H' → Dn.ct σ' H'
  | .exc c ds ρ h => ∀ w' H' σ' C d, Later w H w' H' → SR g w' ρ h σ' H' → XR g w' H' c ds C d → W (.ref C) d σ' H'
  | .bad => False
def tS (g : Gx) (W : WX) (f : Fs) : TS := fun Dn σ H => ∃ w ρ h, SR g w ρ h σ H ∧ OKs g w H W Dn (f ρ h)
/-- an expression ahead of the rest of a statement -/
def SRes.of {α : Type} (ρ : Rho) (r : Res α) (k : α → Hh → SRes) : SRes := match r with
  | .ok a h => k a h
  | .exc c ds h => .exc c ds ρ h
  | .bad => .bad
@[simp] theorem SRes.of_ok {α : Type} (ρ : Rho) (a : α) (h : Hh) (k : α → Hh → SRes) : SRes.of ρ (.ok a h) k = k a h := rfl
section
variable {α β : Type} {g : Gx} {W : WX} {X : Cx} {w w' : Wd} {ρ : Rho} {h : Hh} {σ : L2.St} {H H' : Hp} {Dn Dn' : Ends}
theorem OKs.mono {r : SRes} (l : Later w H w' H') (o : OKs g w H W Dn r) : OKs g w' H' W Dn r := by
  cases r with
  | nx ρ h => exact fun w2 H2 σ l2 => o w2 H2 σ (l.trans l2)
  | rt d h => exact fun w2 H2 v l2 => o w2 H2 v (l.trans l2)
  | bk ρ h => exact fun w2 H2 σ l2 => o w2 H2 σ (l.trans l2)
  | ct ρ h => exact fun w2 H2 σ l2 => o w2 H2 σ (l.trans l2)
  | exc c ds ρ h => exact fun w2 H2 σ C d l2 => o w2 H2 σ C d (l.trans l2)
  | bad => exact o
theorem OKs.of {R : Wd → Hp → α → β → Prop} {r : Res α} {k : α → Hh → SRes} (s : SR g w ρ h σ H) (o : OKs g w H W Dn (SRes.of ρ r k)) :
    OKg g R w H (wAt W σ) (fun b H1 => ∃ w1 a h1, Later w H w1 H1 ∧ HR g w1 h1 H1 ∧ R w1 H1 a b ∧ OKs g w1 H1 W Dn (k a h1)) r := by
  cases r with
  | ok a h => exact fun w2 H2 b l2 hr rv => ⟨w2, a, h, l2, hr, rv, OKs.mono l2 o⟩
  | exc c ds h1 => exact fun w2 H2 C d l2 hr xr => o w2 H2 σ C d l2 (s.step l2 hr) xr
  | bad => exact o
theorem sI_go {f : Fn} {k : D → Hh → SRes} (s : SR g w ρ h σ H) (o : OKs g w H W Dn (SRes.of ρ (f ρ h) k)) {Q : VK}
    (hq : ∀ V H1 w1 a h1, Later w H w1 H1 → SR g w1 ρ h1 σ H1 → RV g w1 H1 a V → OKs g w1 H1 W Dn (k a h1) → Q V H1) : tI g W f σ H Q :=
  ⟨w, ρ, h, s, (OKs.of s o).imp fun V H1 ⟨w1, a, h1, l, hr, rv, o1⟩ => hq V H1 w1 a h1 l (s.step l hr) rv o1⟩
theorem sT_go {f : Ft} {k : Bool → Hh → SRes} (s : SR g w ρ h σ H) (o : OKs g w H W Dn (SRes.of ρ (f ρ h) k)) {Q : Bool → Hp → Prop}
    (hq : ∀ b H1 w1 h1, Later w H w1 H1 → SR g w1 ρ h1 σ H1 → OKs g w1 H1 W Dn (k b h1) → Q b H1) : tT g W f σ H Q :=
  ⟨w, ρ, h, s, (OKs.of (R := RB) s o).imp fun b H1 ⟨w1, a, h1, l, hr, rv, o1⟩ => by cases rv; exact hq b H1 w1 h1 l (s.step l hr) o1⟩
theorem sL_go {f : Fl} {k : List D → Hh → SRes} (s : SR g w ρ h σ H) (o : OKs g w H W Dn (SRes.of ρ (f ρ h) k)) {Q : List V → Hp → Prop}
    (hq : ∀ Vs H1 w1 ds h1, Later w H w1 H1 → SR g w1 ρ h1 σ H1 → RVs g w1 H1 ds Vs → OKs g w1 H1 W Dn (k ds h1) → Q Vs H1) : tL g W f σ H Q :=
  ⟨w, ρ, h, s, (OKs.of s o).imp fun V H1 ⟨w1, a, h1, l, hr, rv, o1⟩ => hq V H1 w1 a h1 l (s.step l hr) rv o1⟩
end

def zNext : Fs := fun ρ h => .nx ρ h
def zSeq (a b : Fs) : Fs := fun ρ h => match a ρ h with
  | .nx ρ1 h1 => b ρ1 h1
  | r => r
def zSet (i : Nat) (a : Fn) : Fs := fun ρ h => SRes.of ρ (a ρ h) fun d h1 => .nx (ρ.set i (some d)) h1
def zIf (t : Ft) (a b : Fs) : Fs := fun ρ h => SRes.of ρ (t ρ h) fun c h1 => if c then a ρ h1 else b ρ h1
def zRet (a : Fn) : Fs := fun ρ h => SRes.of ρ (a ρ h) fun d h1 => .rt d h1
def zRetN : Fs := fun _ h => .rt .non h
def zExpr (a : Fn) : Fs := fun ρ h => SRes.of ρ (a ρ h) fun _ h1 => .nx ρ h1
def zBreak : Fs := fun ρ h => .bk ρ h
def zCont : Fs := fun ρ h => .ct ρ h
def zNever : Fs := fun _ _ => .bad
/-- a, b = x, y by names -/
def zPar (i j : Nat) (a : Fl) : Fs := fun ρ h => SRes.of ρ (a ρ h) fun ds h1 => match ds with
  | [d, e] => .nx ((ρ.set i (some d)).set j (some e)) h1
  | _ => .bad
/-- targets -/
abbrev Fg := D → Rho → Option Rho
def gN (i : Nat) : Fg := fun d ρ => some (ρ.set i (some d))
def gT2 (i j : Nat) : Fg := fun d ρ => match d with | .tup [a, b] => some ((ρ.set i (some a)).set j (some b)) | _ => none
def gT3 (i j k : Nat) : Fg := fun d ρ => match d with | .tup [a, b, c] => some (((ρ.set i (some a)).set j (some b)).set k (some c)) | _ => none
def zAsg (t : Fg) (a : Fn) : Fs := fun ρ h => SRes.of ρ (a ρ h) fun d h1 => match t d ρ with | some ρ1 => .nx ρ1 h1 | none => .bad
/-- items -/
def setAt (o i v : D) (h : Hh) : Option Hh := match o, i with
  | .ref n, .int j => match h[n]? with
    | some (.lst ds) => match ixN ds.length j with
      | some k => some (h.set n (.lst (ds.set k v)))
      | none => none
    | _ => none
  | _, _ => none
def zSetIx (o i v : Fn) : Fs := fun ρ h => SRes.of ρ (v ρ h) fun v h1 => SRes.of ρ (o ρ h1) fun o h2 => SRes.of ρ (i ρ h2) fun i h3 => match setAt o i v h3 with | some h4 => .nx ρ h4 | none => .bad
/-- += of ints -/
def iaddD (a b : D) (h : Hh) : Res D := match a, b with
  | .int i, .int j => .ok (.int (i + j)) h
  | _, _ => .bad
/-- an item of a list, its place not negative -/
def lgetD (a b : D) (h : Hh) : Res D := match asL h a, b with
  | some ds, .int i => if decide (0 ≤ i) && decide (i < 2 ^ 63) then (match ds[i.toNat]? with | some d => .ok d h | none => .bad) else .bad
  | _, _ => .bad
def zAugIx (op : D → D → Hh → Res D) (o i v : Fn) : Fs := fun ρ h => SRes.of ρ (o ρ h) fun o h1 => SRes.of ρ (i ρ h1) fun i h2 => SRes.of ρ (lgetD o i h2) fun x h3 => SRes.of ρ (v ρ h3) fun y h4 => SRes.of ρ (op x y h4) fun z h5 => match setAt o i z h5 with | some h6 => .nx ρ h6 | none => .bad
/-- loops -/
def loopS (t : Fg) (b : Fs) : List D → Rho → Hh → SRes
  | [], ρ, h => .nx ρ h
  | d :: ds, ρ, h => match t d ρ with
    | none => .bad
    | some ρ1 => match b ρ1 h with
      | .nx ρ2 h2 => loopS t b ds ρ2 h2
      | .ct ρ2 h2 => loopS t b ds ρ2 h2
      | .bk ρ2 h2 => .nx ρ2 h2
      | r => r
def zFor (it : Fl) (t : Fg) (b : Fs) : Fs := fun ρ h => SRes.of ρ (it ρ h) fun ds h1 => loopS t b ds ρ h1

section
variable {g : Gx} {W : WX} {X : Cx} {a b c e tg iter : Expr} {pos p p2 : Pos} {fa fb fc : Fn} {es : List Expr} {fs : Fl} {st : Stmt} {sts : List Stmt} {za zb : Fs}
theorem q_snil : PSs X [] (tS g W zNext) := ⟨fun pins s σ H D I ⟨w, ρ, h, sr, o⟩ => pss_nil.run pins s σ H D I (o w H σ (Later.refl w H) sr)⟩
theorem q_seq (h1 : PS X st (tS g W za)) (h2 : PSs X sts (tS g W zb)) : PSs X (st :: sts) (tS g W (zSeq za zb)) :=
  ⟨fun pins s σ H D I ⟨w, ρ, h, sr, o⟩ => (pss_cons h1 h2).run pins s σ H D I ⟨w, ρ, h, sr, by
    unfold zSeq at o
    cases q : za ρ h with
    | nx ρ1 h1 => rw [q] at o; exact fun w' H' σ' l sr' => ⟨w', ρ1, h1, sr', OKs.mono l o⟩
    | rt d h1 => rw [q] at o; exact o
    | bk ρ1 h1 => rw [q] at o; exact o
    | ct ρ1 h1 => rw [q] at o; exact o
    | exc c ds ρ1 h1 => rw [q] at o; exact o
    | bad => rw [q] at o; exact o⟩⟩
theorem q_sone (h1 : PS X st (tS g W za)) : PSs X [st] (tS g W za) := pss_one h1
theorem q_pass : PS X (.Pass pos) (tS g W zNext) := ⟨fun pins s σ H D I ⟨w, ρ, h, sr, o⟩ => ps_pass.run pins s σ H D I (o w H σ (Later.refl w H) sr)⟩
theorem q_break : PS X (.Break pos) (tS g W zBreak) := ⟨fun pins s σ H D I ⟨w, ρ, h, sr, o⟩ => ps_break.run pins s σ H D I (o w H σ (Later.refl w H) sr)⟩
theorem q_continue : PS X (.Continue pos) (tS g W zCont) := ⟨fun pins s σ H D I ⟨w, ρ, h, sr, o⟩ => ps_continue.run pins s σ H D I (o w H σ (Later.refl w H) sr)⟩
theorem q_ret (ha : PE X a (tI g W fa)) : PS X (.Return (some a) pos) (tS g W (zRet fa)) :=
  ⟨fun pins s σ H D I ⟨w, ρ, h, sr, o⟩ => (ps_ret ha).run pins s σ H D I (sI_go sr o fun V H1 w1 d h1 l sr1 rv o1 => o1 w1 H1 V (Later.refl w1 H1) sr1.hr rv)⟩
theorem q_retN : PS X (.Return none pos) (tS g W zRetN) := ⟨fun pins s σ H D I ⟨w, ρ, h, sr, o⟩ => ps_retN.run pins s σ H D I (o w H .non (Later.refl w H) sr.hr .non)⟩
theorem q_if {t : Ft} {A B : List Stmt} (ht : PT X c (tT g W t)) (ha : PSs X A (tS g W za)) (hb : PSs X B (tS g W zb)) : PS X (.If c A B pos) (tS g W (zIf t za zb)) :=
  ⟨fun pins s σ H D I ⟨w, ρ, h, sr, o⟩ => (ps_if ht ha hb).run pins s σ H D I (sT_go sr o fun k H1 w1 h1 l sr1 o1 => by
    cases k with
    | true => exact ⟨w1, ρ, h1, sr1, o1⟩
    | false => exact ⟨w1, ρ, h1, sr1, o1⟩)⟩
theorem q_expr (hp : ∀ {te : TE}, PE X a te → PS X (.Expr a pos) (tDrop te)) (ha : PE X a (tI g W fa)) : PS X (.Expr a pos) (tS g W (zExpr fa)) :=
  ⟨fun pins s σ H D I ⟨w, ρ, h, sr, o⟩ => (hp ha).run pins s σ H D I (sI_go sr o fun V H1 w1 d h1 l sr1 rv o1 => o1 w1 H1 σ (Later.refl w1 H1) sr1)⟩
/-- name = value, by any rule of the layer for it -/
theorem q_set {i : Nat} {tgs : List Expr} {t : TE} (hp : PS X (.Assign tgs a pos) (tAsg t (gName i))) (ht : ∀ σ H Q, tI g W fa σ H Q → t σ H Q) : PS X (.Assign tgs a pos) (tS g W (zSet i fa)) :=
  ⟨fun pins s σ H D I ⟨w, ρ, h, sr, o⟩ => hp.run pins s σ H D I (ht _ _ _ (sI_go sr o fun V H1 w1 d h1 l sr1 rv o1 => o1 w1 H1 _ (Later.refl w1 H1) (sr1.set rv i)))⟩
theorem q_par {i j : Nat} {tgs : List Expr} (hp : PS X (.Assign tgs a pos) (tPar i j (tL g W fs))) : PS X (.Assign tgs a pos) (tS g W (zPar i j fs)) :=
  ⟨fun pins s σ H D I ⟨w, ρ, h, sr, o⟩ => hp.run pins s σ H D I (sL_go sr o fun Vs H1 w1 ds h1 l sr1 rvs o1 => by
    split at o1
    · obtain ⟨x, y, rfl, rx, ry⟩ := rvs2 rvs
      exact ⟨x, y, rfl, o1 w1 H1 _ (Later.refl w1 H1) ((sr1.set rx i).set ry j)⟩
    · exact o1.elim)⟩
theorem wipe_set (x : Option V) (i : Nat) : ∀ (σ : L2.St) (vs : List Nat), wipe (σ.set i x) vs = if i ∈ vs then wipe σ vs else (wipe σ vs).set i x
  | σ, [] => by simp [wipe]
  | σ, v :: vs => by
    show (wipe (σ.set i x) vs).set v none = _
    rw [wipe_set x i σ vs]
    by_cases h : i ∈ vs
    · rw [if_pos h, if_pos (List.mem_cons_of_mem _ h)]; rfl
    · rw [if_neg h]
      by_cases e : i = v
      · subst e
        rw [if_pos (List.mem_cons_self ..), List.set_set]; rfl
      · rw [if_neg (by simp [e, h]), List.set_comm _ _ e]; rfl
theorem wipe_in {x : Option V} {i : Nat} {σ : L2.St} {vs : List Nat} (h : i ∈ vs) : wipe (σ.set i x) vs = wipe σ vs := by rw [wipe_set, if_pos h]
/-- f stores into the slots is alone -/
def tG (g : Gx) (is : List Nat) (f : Fg) : TG := fun v σ H Q => ∃ w ρ h d ρ', SR g w ρ h σ H ∧ RV g w H d v ∧ f d ρ = some ρ' ∧ ∀ σ', SR g w ρ' h σ' H → (∀ vs, (∀ i ∈ is, i ∈ vs) → wipe σ' vs = wipe σ vs) → Q σ' H
theorem q_gn {i : Nat} {x : Str} (hp : PG X (.Name x pos) (gName i)) : PG X (.Name x pos) (tG g [i] (gN i)) :=
  ⟨fun pins s σ H v u Q I r ⟨w, ρ, h, d, ρ', sr, rv, e, q⟩ => hp.run pins s σ H v u Q I r (by
    simp only [gN, Option.some.injEq] at e
    subst e
    exact q _ (sr.set rv i) fun vs hv => wipe_in (hv i (by simp)))⟩
theorem q_gt2 {i j k : Nat} {es : List Expr} (hp : PG X (.Tuple es k pos) (gTup X.K 2 (gCons (gName i) (gCons (gName j) gNil)))) : PG X (.Tuple es k pos) (tG g [i, j] (gT2 i j)) :=
  ⟨fun pins s σ H v u Q I r ⟨w, ρ, h, d, ρ', sr, rv, e, q⟩ => hp.run pins s σ H v u Q I r (by
    unfold gT2 at e
    split at e
    · cases e
      obtain ⟨a, vs, rfl, hp, t⟩ := rv_tup rv
      obtain ⟨x, y, rfl, rx, ry⟩ := rvs2 t
      exact ⟨a, _, rfl, .inl (.inl hp), rfl, _, _, rfl, _, _, rfl, rfl, q _ ((sr.set rx i).set ry j) fun vs hv => (wipe_in (hv j (by simp))).trans (wipe_in (hv i (by simp)))⟩
    · cases e)⟩
theorem q_gt3 {i j l k : Nat} {es : List Expr} (hp : PG X (.Tuple es k pos) (gTup X.K 3 (gCons (gName i) (gCons (gName j) (gCons (gName l) gNil))))) : PG X (.Tuple es k pos) (tG g [i, j, l] (gT3 i j l)) :=
  ⟨fun pins s σ H v u Q I r ⟨w, ρ, h, d, ρ', sr, rv, e, q⟩ => hp.run pins s σ H v u Q I r (by
    unfold gT3 at e
    split at e
    · cases e
      obtain ⟨a, vs, rfl, hp, t⟩ := rv_tup rv
      cases t with
      | cons r1 t =>
        obtain ⟨x, y, rfl, rx, ry⟩ := rvs2 t
        exact ⟨a, _, rfl, .inl (.inl hp), rfl, _, _, rfl, _, _, rfl, _, _, rfl, rfl, q _ (((sr.set r1 i).set rx j).set ry l) fun vs hv => ((wipe_in (hv l (by simp))).trans (wipe_in (hv j (by simp)))).trans (wipe_in (hv i (by simp)))⟩
    · cases e)⟩
theorem q_asg {is : List Nat} {t : Fg} {tgs : List Expr} (hp : PS X (.Assign tgs a pos) (tAsg (tI g W fa) (tG g is t))) : PS X (.Assign tgs a pos) (tS g W (zAsg t fa)) :=
  ⟨fun pins s σ H D I ⟨w, ρ, h, sr, o⟩ => hp.run pins s σ H D I (sI_go sr o fun V H1 w1 d h1 l sr1 rv o1 => by
    split at o1
    · rename_i e
      exact ⟨w1, ρ, h1, d, _, sr1, rv, e, fun σ' sr' _ => o1 w1 H1 σ' (Later.refl w1 H1) sr'⟩
    · exact o1.elim)⟩
def tSetD (g : Gx) : TSet := fun o i v H Q => ∃ w h a b c h', HR g w h H ∧ RV g w H a o ∧ RV g w H b i ∧ RV g w H c v ∧ setAt a b c h = some h' ∧ ∀ w' H', Later w H w' H' → HR g w' h' H' → Q H'
theorem set_ok : PSet X (tSetD g) := by
  intro pins s σ H o i v ov iv u Q I r1 r2 r3 ⟨w, h, a, b, c, h', hr, ra, rb, rc, e, q⟩
  unfold setAt at e
  split at e
  · rename_i n j
    cases rb
    split at e
    · rename_i ds e1
      split at e
      · rename_i k e2
        cases e
        cases ra with
        | @ref _ p hp =>
          obtain ⟨nF, vs, e3, t⟩ := hr.ob n _ p e1 hp
          have mu : Mu (H p) := by rw [e3]; trivial
          refine set_list pins s σ H _ _ _ ov iv u Q I r1 r2 r3 ⟨p, vs, j, k, rfl, rfl, e3, by rw [← t.length]; exact e2, ?_⟩
          have l := later_put (o' := .lst (ds.set k c)) (ho := .lst (vs.set k v)) hr e1 hp nF mu
          exact q w _ l (hr_put hr e1 hp nF mu ⟨nF, _, upd_same, (t.set k rc).mono l⟩)
      · cases e
    · cases e
  · cases e
theorem q_setix {o i v : Expr} {fo fi fv : Fn} (hp : PS X (.Assign [.Subscript o i p2] v pos) (tAsg (tI g W fv) (gSub (tI g W fo) (tI g W fi) (tSetD g)))) : PS X (.Assign [.Subscript o i p2] v pos) (tS g W (zSetIx fo fi fv)) :=
  ⟨fun pins s σ H D I ⟨w, ρ, h, sr, o⟩ => hp.run pins s σ H D I (sI_go sr o fun V H1 w1 d1 h1 l1 sr1 rv1 o1 => sI_go sr1 o1 fun V2 H2 w2 d2 h2 l2 sr2 rv2 o2 => sI_go sr2 o2 fun V3 H3 w3 d3 h3 l3 sr3 rv3 o3 => by
    split at o3
    · rename_i e
      exact ⟨w3, h3, d2, d3, d1, _, sr3.hr, rv2.mono l3, rv3, (rv1.mono l2).mono l3, e, fun w' H' l hr => o3 w' H' σ l (sr3.step l hr)⟩
    · exact o3.elim)⟩
theorem get_ok {E : XK} : PGet X (rD g E lgetD) := by
  intro pins s σ H o i ov iv Q I r1 r2 ⟨w, h, d, e, hr, rd, re, q⟩
  unfold lgetD at q
  split at q
  · rename_i e1
    cases re
    split at q
    · rename_i hz
      simp only [Bool.and_eq_true, decide_eq_true_eq] at hz
      split at q
      · rename_i e2
        obtain ⟨p, vs, rfl, hp, t⟩ := asL_ok e1 hr rd
        obtain ⟨v, e3, rv⟩ := t.get e2
        cases r1
        obtain ⟨tk, rfl⟩ := r2
        obtain ⟨its, n, r, ho, _⟩ := lst_at I.hok hp
        obtain ⟨u, e4, ru⟩ := r.get e3
        exact wpAny_getItem_list (items := its.toArray) ⟨_, ho, rfl, n, rfl⟩ hz.1 hz.2 (by simpa using e4) ⟨v, H, I, ru, q.keep hr rv⟩
      · exact q.elim
    · exact q.elim
  · exact q.elim
theorem ipadd_ok {E : XK} : PIp X .Add (rD g E iaddD) := by
  intro pins s σ H x y v u Q I r1 r2 ⟨w, h, a, b, hr, ra, rb, q⟩
  unfold iaddD at q
  split at q
  · cases ra; cases rb
    exact ip_add pins s σ H _ _ v u Q I r1 r2 ⟨_, _, rfl, rfl, q.keep hr (.int _)⟩
  · exact q.elim
theorem q_augix {op : Operator} {f : D → D → Hh → Res D} {o i v : Expr} {fo fi fv : Fn} (hp : ∀ E, PS X (.AugAssign (.Subscript o i p2) op v pos) (tAugS (tI g W fo) (tI g W fi) (tI g W fv) (rD g E lgetD) (rD g E f) (tSetD g))) : PS X (.AugAssign (.Subscript o i p2) op v pos) (tS g W (zAugIx f fo fi fv)) :=
  ⟨fun pins s σ H D I ⟨w, ρ, h, sr, o⟩ => (hp (wAt W σ)).run pins s σ H D I (sI_go sr o fun V1 H1 w1 d1 h1 l1 sr1 rv1 o1 => sI_go sr1 o1 fun V2 H2 w2 d2 h2 l2 sr2 rv2 o2 => ⟨w2, h2, d1, d2, sr2.hr, rv1.mono l2, rv2,
    (OKs.of sr2 o2).imp fun V3 H3 ⟨w3, d3, h3, l3, hr3, rv3, o3⟩ => sI_go (sr2.step l3 hr3) o3 fun V4 H4 w4 d4 h4 l4 sr4 rv4 o4 => ⟨w4, h4, d3, d4, sr4.hr, rv3.mono l4, rv4,
      (OKs.of sr4 o4).imp fun V5 H5 ⟨w5, d5, h5, l5, hr5, rv5, o5⟩ => by
        split at o5
        · rename_i e
          exact ⟨w5, h5, d1, d2, d5, _, hr5, (((rv1.mono l2).mono l3).mono l4).mono l5, ((rv2.mono l3).mono l4).mono l5, rv5, e, fun w' H' l hr => o5 w' H' σ l ((sr4.step l5 hr5).step l hr)⟩
        · exact o5.elim⟩⟩)⟩
/-- the walk yields ds -/
def JOk (g : Gx) (J : It) (w : Wd) (H : Hp) (ds : List D) : Prop := ∀ w' H' h', Lv w H w' H' → HR g w' h' H' → ∀ i : Nat,
  (∀ d, ds[i]? = some d → J.go i H' ∧ ∀ x H'', J.yld i H' x H'' → ∃ w'', Later w' H' w'' H'' ∧ HR g w'' h' H'' ∧ RV g w'' H'' d x) ∧ (ds[i]? = none → J.stop i H')
abbrev RJ (g : Gx) : Wd → Hp → List D → It → Prop := fun w H ds J => JOk g J w H ds
def tIt (g : Gx) (W : WX) (f : Fl) : TI := fun σ H R => ∃ w ρ h, SR g w ρ h σ H ∧ OKg g (RJ g) w H (wAt W σ) R (f ρ h)
def itemsD (d : D) (h : Hh) : Res (List D) := match d with
  | .lst ds => .ok ds h
  | .tup ds => .ok ds h
  | .str x => .ok (x.cps.toList.map fun c => .str ⟨#[c]⟩) h
  | _ => .bad
def iV (a : Fn) : Fl := fun ρ h => (a ρ h).bind fun d h1 => itemsD d h1
theorem jok_list {K : PySem.W.Frag} {w : Wd} {H : Hp} {a : Addr} {vs : List V} {ds : List D} (hp : H a = some (.lst vs)) (hF : w.F a) (t : RVs g w H ds vs) : JOk g (Itl K a) w H ds := fun w' H' h' l hr i => by
  have e := l.lst a vs hF hp
  refine ⟨fun d hd => ?_, fun hd => ?_⟩
  · obtain ⟨v, e1, rv⟩ := (t.mono0 l).get hd
    refine ⟨⟨vs, v, .inl (.inl e), e1⟩, fun x H'' y => ?_⟩
    obtain ⟨rfl, y⟩ := y
    have e2 := y vs (.inl (.inl e))
    rw [e1] at e2
    cases e2
    exact ⟨w', Later.refl _ _, hr, rv⟩
  · exact ⟨vs, .inl (.inl e), by rw [← t.length]; exact List.getElem?_eq_none_iff.mp hd⟩
theorem jok_tup {K : PySem.W.Frag} {w : Wd} {H : Hp} {a : Addr} {vs : List V} {ds : List D} (hp : H a = some (.tup vs)) (t : RVs g w H ds vs) : JOk g (Itt K a) w H ds := fun w' H' h' l hr i => by
  have e := l.tup a vs hp
  refine ⟨fun d hd => ?_, fun hd => ?_⟩
  · obtain ⟨v, e1, rv⟩ := (t.mono0 l).get hd
    refine ⟨⟨vs, v, .inl (.inl e), e1⟩, fun x H'' y => ?_⟩
    obtain ⟨rfl, y⟩ := y
    have e2 := y vs (.inl (.inl e))
    rw [e1] at e2
    cases e2
    exact ⟨w', Later.refl _ _, hr, rv⟩
  · exact ⟨vs, .inl (.inl e), by rw [← t.length]; exact List.getElem?_eq_none_iff.mp hd⟩
theorem jok_str {w : Wd} {H : Hp} {x : Str} : JOk g (Its x) w H (x.cps.toList.map fun c => .str ⟨#[c]⟩) := fun w' H' h' l hr i => by
  refine ⟨fun d hd => ?_, fun hd => ?_⟩
  · rw [List.getElem?_map, Option.map_eq_some_iff] at hd
    obtain ⟨c, e, rfl⟩ := hd
    rw [Array.getElem?_toList] at e
    refine ⟨(Array.getElem?_eq_some_iff.mp e).1, fun v H'' y => ?_⟩
    obtain ⟨rfl, c', e', rfl⟩ := y
    rw [e] at e'
    cases e'
    exact ⟨w', Later.refl _ _, hr, .str _⟩
  · rw [List.getElem?_map, Option.map_eq_none_iff, Array.getElem?_toList] at hd
    exact Array.getElem?_eq_none_iff.mp hd
theorem q_it (ha : PE X a (tI g W fa)) : PI X tg a (tIt g W (iV fa)) := ⟨fun pins s σ H R I ⟨w, ρ, h, sr, o⟩ => by
  -- which rule depends on the value: decide it by running the tree first
  unfold iV at o
  cases q : fa ρ h with
  | bad => rw [q] at o; exact o.elim
  | exc c ds h1 =>
    rw [q] at o
    exact (pi_list ha).run pins s σ H R I ⟨w, ρ, h, sr, by rw [q]; exact o⟩
  | ok d h1 =>
    rw [q] at o
    have o : OKg g (RJ g) w H (wAt W σ) R (itemsD d h1) := o
    unfold itemsD at o
    split at o
    · rename_i ds
      refine (pi_list ha).run pins s σ H R I ⟨w, ρ, h, sr, ?_⟩
      rw [q]
      intro w' H' V l hr rv
      cases rv with
      | lst hp hF t => exact ⟨_, rfl, ⟨_, .inl (.inl hp)⟩, o w' H' _ l hr (jok_list hp hF t)⟩
    · rename_i ds
      refine (pi_tup ha).run pins s σ H R I ⟨w, ρ, h, sr, ?_⟩
      rw [q]
      intro w' H' V l hr rv
      obtain ⟨p, vs, rfl, hp, t⟩ := rv_tup rv
      exact ⟨_, rfl, ⟨_, .inl (.inl hp)⟩, o w' H' _ l hr (jok_tup hp t)⟩
    · rename_i x
      refine (pi_str ha).run pins s σ H R I ⟨w, ρ, h, sr, ?_⟩
      rw [q]
      intro w' H' V l hr rv
      cases rv
      exact ⟨_, rfl, o w' H' _ l hr jok_str⟩
    · exact o.elim⟩
def rng1D (ds : List D) (h : Hh) : Res (List D) := match ds with
  | [.int j] => if decide (-(2 ^ 62) ≤ j) && decide (j < 2 ^ 62) then .ok ((List.range j.toNat).map fun (k : Nat) => .int (0 + (k : Int))) h else .bad
  | _ => .bad
def rng2D (ds : List D) (h : Hh) : Res (List D) := match ds with
  | [.int i, .int j] => if decide (-(2 ^ 62) ≤ i) && decide (i < 2 ^ 62) && decide (-(2 ^ 62) ≤ j) && decide (j < 2 ^ 62) then .ok ((List.range (j - i).toNat).map fun (k : Nat) => .int (i + (k : Int))) h else .bad
  | _ => .bad
def iR1 (a : Fl) : Fl := fun ρ h => (a ρ h).bind fun ds h1 => rng1D ds h1
def iR2 (a : Fl) : Fl := fun ρ h => (a ρ h).bind fun ds h1 => rng2D ds h1
theorem jok_rng {w : Wd} {H : Hp} {lo : Int} {n : Nat} : JOk g (Itr lo n) w H ((List.range n).map fun (k : Nat) => .int (lo + (k : Int))) := fun w' H' h' l hr i => by
  refine ⟨fun d hd => ?_, fun hd => ?_⟩
  · rw [List.getElem?_map, Option.map_eq_some_iff] at hd
    obtain ⟨c, e, rfl⟩ := hd
    obtain ⟨hi, e⟩ := List.getElem?_eq_some_iff.mp e
    rw [List.getElem_range] at e
    subst e
    refine ⟨by rw [List.length_range] at hi; exact hi, fun v H'' y => ?_⟩
    obtain ⟨rfl, rfl⟩ := y
    exact ⟨w', Later.refl _ _, hr, .int _⟩
  · rw [List.getElem?_map, Option.map_eq_none_iff] at hd
    have := List.getElem?_eq_none_iff.mp hd
    rw [List.length_range] at this
    exact this
theorem q_rng1 (hp : ∀ {ta : TA}, PA X [a] ta → PI X tg (.Call (.Name "range" p) [a] [] pos) (iRng1 ta)) (ha : PA X [a] (tL g W fs)) : PI X tg (.Call (.Name "range" p) [a] [] pos) (tIt g W (iR1 fs)) :=
  ⟨fun pins s σ H R I ⟨w, ρ, h, sr, o⟩ => (hp ha).run pins s σ H R I (tL_go sr o fun Vs H1 w1 ds h1 l sr1 rvs o1 => by
    unfold rng1D at o1
    split at o1
    · split at o1
      · rename_i hz
        simp only [Bool.and_eq_true, decide_eq_true_eq] at hz
        obtain ⟨x, rfl, rx⟩ := rvs1 rvs
        cases rx
        exact ⟨_, rfl, hz.1, hz.2, o1 w1 H1 _ (Later.refl w1 H1) sr1.hr jok_rng⟩
      · exact o1.elim
    · exact o1.elim)⟩
theorem q_rng2 (hp : ∀ {ta : TA}, PA X [a, b] ta → PI X tg (.Call (.Name "range" p) [a, b] [] pos) (iRng2 ta)) (ha : PA X [a, b] (tL g W fs)) : PI X tg (.Call (.Name "range" p) [a, b] [] pos) (tIt g W (iR2 fs)) :=
  ⟨fun pins s σ H R I ⟨w, ρ, h, sr, o⟩ => (hp ha).run pins s σ H R I (tL_go sr o fun Vs H1 w1 ds h1 l sr1 rvs o1 => by
    unfold rng2D at o1
    split at o1
    · split at o1
      · rename_i hz
        simp only [Bool.and_eq_true, decide_eq_true_eq] at hz
        obtain ⟨x, y, rfl, rx, ry⟩ := rvs2 rvs
        cases rx; cases ry
        exact ⟨_, _, rfl, ⟨hz.1.1.1, hz.1.1.2, hz.1.2, hz.2⟩, o1 w1 H1 _ (Later.refl w1 H1) sr1.hr jok_rng⟩
      · exact o1.elim
    · exact o1.elim)⟩
theorem q_for {is : List Nat} {fi : Fl} {t : Fg} {body : List Stmt} (hp : ∀ {wi : TI} {gg : TG} {tb : TS}, PI X tg iter wi → PG X tg gg → PSs X body tb → PS X (.For tg iter body [] pos) (tFor wi gg tb))
    (hi : PI X tg iter (tIt g W fi)) (hg : PG X tg (tG g is t)) (hb : PSs X body (tS g W zb)) : PS X (.For tg iter body [] pos) (tS g W (zFor fi t zb)) :=
  ⟨fun pins s σ H D I ⟨w, ρ, h, sr, o⟩ => (hp hi hg hb).run pins s σ H D I ⟨w, ρ, h, sr, (OKs.of (R := RJ g) sr o).imp fun J H1 ⟨w1, ds, h1, l1, hr1, jo, o1⟩ => by
    refine ⟨fun i m σ' H' => m = ds.length - i ∧ i ≤ ds.length ∧ ∃ w' ρ' h', Later w1 H1 w' H' ∧ SR g w' ρ' h' σ' H' ∧ OKs g w' H' W D (loopS t zb (ds.drop i) ρ' h'), ⟨ds.length, rfl, Nat.zero_le _, w1, ρ, h1, Later.refl _ _, sr.step l1 hr1, o1⟩, ?_⟩
    rintro i m σ' H' ⟨rfl, hi, w', ρ', h', l', sr', o'⟩
    obtain ⟨jg, js⟩ := jo w' H' h' l'.toLv sr'.hr i
    cases hd : ds[i]? with
    | none =>
      have hn := List.getElem?_eq_none_iff.mp hd
      rw [List.drop_of_length_le hn] at o'
      exact .inl ⟨js hd, o' w' H' σ' (Later.refl _ _) sr'⟩
    | some d =>
      obtain ⟨hlt, hd'⟩ := List.getElem?_eq_some_iff.mp hd
      obtain ⟨go, yl⟩ := jg d hd
      rw [List.drop_eq_getElem_cons hlt, hd'] at o'
      refine .inr ⟨go, fun σ2 H2 => ∃ w2 ρ2 h2, Later w1 H1 w2 H2 ∧ SR g w2 ρ2 h2 σ2 H2 ∧ OKs g w2 H2 W D (loopS t zb (ds.drop (i + 1)) ρ2 h2), fun σ2 H2 ⟨w2, ρ2, h2, x1, x2, x3⟩ => ⟨ds.length - (i + 1), by omega, rfl, hlt, w2, ρ2, h2, x1, x2, x3⟩, fun x H'' y => ?_⟩
      obtain ⟨w'', l'', hr'', rv⟩ := yl x H'' y
      have sr'' := sr'.step l'' hr''
      have o'' := OKs.mono l'' o'
      unfold loopS at o''
      split at o''
      · exact o''.elim
      · rename_i ρ1 e1
        refine ⟨w'', ρ', h', d, ρ1, sr'', rv, e1, fun σ3 sr3 _ => ⟨w'', ρ1, h', sr3, ?_⟩⟩
        split at o''
        · rename_i ρ2 h2 e2
          rw [e2]
          exact fun w3 H3 σ4 l3 sr4 => ⟨w3, ρ2, h2, (l'.trans l'').trans l3, sr4, OKs.mono l3 o''⟩
        · rename_i ρ2 h2 e2
          rw [e2]
          exact fun w3 H3 σ4 l3 sr4 => ⟨w3, ρ2, h2, (l'.trans l'').trans l3, sr4, OKs.mono l3 o''⟩
        · rename_i ρ2 h2 e2
          rw [e2]
          exact o''
        · rename_i r n1 n2 n3
          cases q : zb ρ1 h' with
          | nx ρ2 h2 => exact absurd q (n1 ρ2 h2)
          | ct ρ2 h2 => exact absurd q (n2 ρ2 h2)
          | bk ρ2 h2 => exact absurd q (n3 ρ2 h2)
          | rt d2 h2 => rw [q] at o''; exact o''
          | exc c2 ds2 ρ2 h2 => rw [q] at o''; exact o''
          | bad => rw [q] at o''; exact o''⟩⟩
end
end Bx
namespace Bx
open PySem PySem.Spec PyProof.Rows L2

def wipeR (ρ : Rho) : List Nat → Rho
  | [] => ρ
  | v :: vs => (wipeR ρ vs).set v none
/-- the elements of a comprehension -/
def lcL (t : Fg) (c : Ft) (e : Fn) (ρ : Rho) : List D → Hh → Res (List D)
  | [], h => .ok [] h
  | d :: ds, h => match t d ρ with
    | none => .bad
    | some ρ1 => (c ρ1 h).bind fun k h1 => if k then (e ρ1 h1).bind fun x h2 => (lcL t c e ρ ds h2).bind fun xs h3 => .ok (x :: xs) h3 else lcL t c e ρ ds h1
/-- no exception may come out of it -/
def noX {α : Type} (r : Res α) : Res α := match r with
  | .exc _ _ _ => .bad
  | r => r
/-- the comprehension's list, frozen | by number -/
def lcE (it : Fl) (own : List Nat) (t : Fg) (c : Ft) (e : Fn) : Fl := fun ρ h => (it ρ h).bind fun ds h1 => if sz ds.length then noX (lcL t c e (wipeR ρ own) ds h1) else .bad

section
variable {g : Gx} {W : WX} {E : XK} {X : Cx} {w : Wd} {ρ : Rho} {h : Hh} {σ : L2.St} {H : Hp}
theorem wipe_sub (σ : L2.St) (vs : List Nat) : ∀ us : List Nat, (∀ u ∈ us, u ∈ vs) → L2.wipe (L2.wipe σ us) vs = L2.wipe σ vs
  | [], _ => rfl
  | u :: us, h => (wipe_in (h u (List.mem_cons_self ..))).trans (wipe_sub σ vs us fun x hx => h x (List.mem_cons_of_mem _ hx))
theorem wipe_twice (σ : L2.St) (vs : List Nat) : L2.wipe (L2.wipe σ vs) vs = L2.wipe σ vs := wipe_sub σ vs vs fun _ h => h
theorem SR.wipes (sr : SR g w ρ h σ H) : ∀ vs : List Nat, SR g w (wipeR ρ vs) h (L2.wipe σ vs) H
  | [] => sr
  | v :: vs => (SR.wipes sr vs).wipe v
/-- no exception within -/
abbrev EF : WX := fun _ _ _ _ => False
theorem noX_inv {α : Type} {r : Res α} {a : α} {h : Hh} (e : noX r = .ok a h) : r = .ok a h := by
  cases r with
  | ok a h => exact e
  | exc c ds h => cases e
  | bad => cases e
theorem bind_inv {α β : Type} {r : Res α} {k : α → Hh → Res β} {b : β} {h' : Hh} (e : r.bind k = .ok b h') : ∃ a h1, r = .ok a h1 ∧ k a h1 = .ok b h' := by
  cases r with
  | ok a h => exact ⟨a, h, rfl, e⟩
  | exc c ds h => cases e
  | bad => cases e
theorem RS.mono0 {w' : Wd} {H' : Hp} (l : Lv w H w' H') (r : RS g w H ρ σ) : RS g w' H' ρ σ := fun i d e => by
  obtain ⟨v, e1, r1⟩ := r i d e
  exact ⟨v, e1, r1.mono0 l⟩
theorem Lv.trans {w w' w'' : Wd} {H H' H'' : Hp} (a : Lv w H w' H') (b : Lv w' H' w'' H'') : Lv w H w'' H'' := by
  obtain ⟨x, ex⟩ := a.ext
  obtain ⟨y, ey⟩ := b.ext
  exact ⟨fun c h => b.frz c (a.frz c h), fun c u h r => b.lst c u (a.frz c h) (a.lst c u h r), fun c o u h => b.sf c o u (a.sf c o u h), fun c o k h r => b.ins c o k (a.frz c h) (a.ins c o k h r), fun c xs h => b.tup c xs (a.tup c xs h), fun c xs h => b.xd c xs (a.xd c xs h), ⟨x ++ y, by rw [ey, ex, List.append_assoc]⟩⟩
/-- the loop of a comprehension; fin is told of the list's address, unknown so far to the world -/
theorem lc_run {is own : List Nat} {t : Fg} {c : Ft} {e : Fn} {ds es : List D} {h1 h2 : Hh} {J : It} {Qd : V → Hp → Prop} (sr : SR g w ρ h1 σ H) (jo : JOk g J w H ds) (hz : sz ds.length = true) (hi : ∀ i ∈ is, i ∈ own)
    (ee : lcL t c e (wipeR ρ own) ds h1 = .ok es h2)
    (fin : ∀ w2 H2 p vs, Later w H w2 H2 → HR g w2 h2 H2 → H2 p = some (.lst vs) → RVs g w2 H2 es vs → ¬ w2.F p → p ∉ w2.m → (∀ x ∈ w2.P, x.1 ≠ p) → Qd (.ref p) H2) :
    ∀ Da, H Da = none → ∃ W : Nat → Nat → Hp → Prop, (∃ m, W 0 m (upd H Da (.lst []))) ∧ ∀ i m H', W i m H' →
      (J.stop i H' ∧ Qd (.ref Da) H') ∨ (J.go i H' ∧ ∃ Nx : Hp → Prop, (∀ H'', Nx H'' → ∃ m', m' < m ∧ W (i + 1) m' H'') ∧ ∀ x H'', J.yld i H' x H'' → tG g is t x (wipe σ own) H'' fun σ2 H2 => wipe σ2 own = wipe σ own ∧ tT g EF c σ2 H2 fun b H3 =>
        if b = true then tI g EF e σ2 H3 fun y H4 => ∃ acc, H4 Da = some (.lst acc) ∧ acc.length < sizeLine ∧ Nx (upd H4 Da (.lst (acc ++ [y]))) else Nx H3) := by
  intro Da hDa
  have nP := sr.hr.np hDa
  refine ⟨fun i m H' => m = ds.length - i ∧ i ≤ ds.length ∧ ∃ (u : Wd) (h' : Hh) (acc es' : List D) (accV : List V), Lv w H u H' ∧ u.P = (Da, .lst accV) :: w.P ∧ HR g u h' H' ∧ RVs g u H' acc accV ∧ acc.length ≤ i ∧ lcL t c e (wipeR ρ own) (ds.drop i) h' = .ok es' h2 ∧ acc ++ es' = es,
    ⟨ds.length, rfl, Nat.zero_le _, w.hold Da (.lst []), h1, [], es, [], (later_new sr.hr hDa).toLv.trans (lv_of rfl fun _ z => z), rfl, hr_hold sr.hr hDa, .nil, Nat.le_refl _, ee, rfl⟩, ?_⟩
  rintro i m H' ⟨rfl, hi', u, h', acc, es', accV, lv, eP, hr, rvs, hlen, el, eapp⟩
  obtain ⟨jg, js⟩ := jo u H' h' lv hr i
  have held : H' Da = some (.lst accV) ∧ ¬ u.F Da ∧ Da ∉ u.m := hr.pr (Da, .lst accV) (by rw [eP]; exact List.mem_cons_self ..)
  cases hd : ds[i]? with
  | none =>
    have hn := List.getElem?_eq_none_iff.mp hd
    rw [List.drop_of_length_le hn] at el
    simp only [lcL, Res.ok.injEq] at el
    obtain ⟨rfl, rfl⟩ := el
    rw [List.append_nil] at eapp
    subst eapp
    refine .inl ⟨js hd, ?_⟩
    have lw : Lv u H' ⟨u.m, u.F, w.P⟩ H' := lv_of rfl fun _ z => z
    refine fin ⟨u.m, u.F, w.P⟩ H' Da accV ⟨lv.trans lw, rfl⟩ ?_ held.1 (rvs.mono0 lw) held.2.1 held.2.2 nP
    exact hr_P hr rfl rfl (fun x hx => hr.pr x (by rw [eP]; exact List.mem_cons_of_mem _ hx)) fun x hx => hr.pm x (by rw [eP]; exact List.mem_cons_of_mem _ hx)
  | some d =>
    obtain ⟨hlt, hd'⟩ := List.getElem?_eq_some_iff.mp hd
    obtain ⟨go, yl⟩ := jg d hd
    rw [List.drop_eq_getElem_cons hlt, hd'] at el
    unfold lcL at el
    split at el
    · cases el
    · rename_i ρ1 et
      obtain ⟨k, h3, ec, el⟩ := bind_inv el
      have next : ∀ {H4 : Hp} {u4 : Wd} {h4 : Hh} {acc' es'' : List D} {accV' : List V}, Lv w H u4 H4 → u4.P = (Da, .lst accV') :: w.P → HR g u4 h4 H4 → RVs g u4 H4 acc' accV' → acc'.length ≤ i + 1 → lcL t c e (wipeR ρ own) (ds.drop (i + 1)) h4 = .ok es'' h2 → acc' ++ es'' = es →
          ∃ m', m' < ds.length - i ∧ m' = ds.length - (i + 1) ∧ i + 1 ≤ ds.length ∧ ∃ (u : Wd) (h' : Hh) (acc es' : List D) (accV : List V), Lv w H u H4 ∧ u.P = (Da, .lst accV) :: w.P ∧ HR g u h' H4 ∧ RVs g u H4 acc accV ∧ acc.length ≤ i + 1 ∧ lcL t c e (wipeR ρ own) (ds.drop (i + 1)) h' = .ok es' h2 ∧ acc ++ es' = es :=
        fun a1 a2 a3 a4 a5 a6 a7 => ⟨ds.length - (i + 1), by omega, rfl, hlt, _, _, _, _, _, a1, a2, a3, a4, a5, a6, a7⟩
      refine .inr ⟨go, _, fun H'' z => z, fun x H'' y => ?_⟩
      obtain ⟨u2, l2, hr2, rv⟩ := yl x H'' y
      have lv2 := lv.trans l2.toLv
      have sr0 := sr.wipes own
      have sr2 : SR g u2 (wipeR ρ own) h' (wipe σ own) H'' := ⟨hr2, sr0.rs.mono0 lv2, sr0.ln⟩
      refine ⟨u2, _, h', d, ρ1, sr2, rv, et, fun σ' sr' hw => ⟨hw own hi |>.trans ?_, u2, ρ1, h', sr', ?_⟩⟩
      · exact wipe_twice σ own
      · rw [ec]
        intro u3 H3 b l3 hr3 rb
        subst rb
        have sr3 := sr'.step l3 hr3
        have eP3 : u3.P = (Da, .lst accV) :: w.P := by rw [l3.pr, l2.pr, eP]
        cases k with
        | false =>
          rw [if_neg Bool.false_ne_true]
          rw [if_neg Bool.false_ne_true] at el
          exact next (lv2.trans l3.toLv) eP3 hr3 ((rvs.mono l2).mono l3) (by omega) el eapp
        | true =>
          rw [if_pos rfl]
          rw [if_pos rfl] at el
          obtain ⟨y, h4, ey, el⟩ := bind_inv el
          obtain ⟨ys, h5, eys, el⟩ := bind_inv el
          simp only [Res.ok.injEq] at el
          obtain ⟨rfl, rfl⟩ := el
          refine ⟨u3, ρ1, h3, sr3, ?_⟩
          rw [ey]
          intro u4 H4 vy l4 hr4 rvy
          have eP4 : u4.P = (Da, .lst accV) :: w.P := by rw [l4.pr, eP3]
          obtain ⟨q1, q2, q3⟩ := hr4.pr (Da, .lst accV) (by rw [eP4]; exact List.mem_cons_self ..)
          have rv4 := ((rvs.mono l2).mono l3).mono l4
          refine ⟨accV, q1, ?_, ?_⟩
          · have := sz_le hz
            rw [← rv4.length]
            omega
          · have hu4 : u4 = (⟨u4.m, u4.F, w.P⟩ : Wd).hold Da (.lst accV) := by
              cases u4 with
              | mk m F P => simp only at eP4; subst eP4; rfl
            rw [hu4] at hr4
            obtain ⟨r1, r2⟩ := hr_rehold hr4 (by rw [q1]; trivial) nP (.lst (accV ++ [vy]))
            have l5 : Lv u4 H4 ((⟨u4.m, u4.F, w.P⟩ : Wd).hold Da (.lst (accV ++ [vy]))) (upd H4 Da (.lst (accV ++ [vy]))) :=
              (lv_of (w := u4) (w' := ⟨u4.m, u4.F, w.P⟩) rfl fun _ z => z).trans (r2.trans (lv_of rfl fun _ z => z))
            refine next (acc' := acc ++ [y]) (((lv2.trans l3.toLv).trans l4.toLv).trans l5) rfl r1 ((rv4.append (.one rvy)).mono0 l5) (by rw [List.length_append, List.length_singleton]; omega) eys ?_
            rw [List.append_assoc]
            exact eapp
theorem bind_assoc {α β γ : Type} (r : Res α) (f : α → Hh → Res β) (k : β → Hh → Res γ) : (r.bind f).bind k = r.bind fun a h => (f a h).bind k := by cases r <;> rfl
/-- a thing that the world did not know gets the next number -/
theorem hr_num {p : Addr} {o : O} (q : HR g w h H) (hm : p ∉ w.m) (hP : ∀ x ∈ w.P, x.1 ≠ p) (hob : OR g (w.new p) H p o) : HR g (w.new p) (h ++ [o]) H ∧ Later w H (w.new p) H := by
  have l : Later w H (w.new p) H := ⟨⟨fun _ z => z, fun _ _ _ r => r, fun _ _ _ r => r, fun _ _ _ _ r => r, fun _ _ r => r, fun _ _ r => r, ⟨[p], rfl⟩⟩, rfl⟩
  refine ⟨⟨by simp [Wd.new, q.len], ?_, q.fz, fun i o1 a e1 e2 => ?_, fun x hx => ?_, q.tb, q.nt, q.pm⟩, l⟩
  · show (w.m ++ [p]).Nodup
    rw [List.nodup_append]
    refine ⟨q.nd, by simp, fun a ha b hb => ?_⟩
    have : b = p := by simpa using hb
    subst this
    exact fun z => hm (z ▸ ha)
  · by_cases hi : i < h.length
    · rw [List.getElem?_append_left hi] at e1
      have e2' : w.m[i]? = some a := by
        have e2 : (w.m ++ [p])[i]? = some a := e2
        rw [List.getElem?_append_left (by rw [q.len]; exact hi)] at e2
        exact e2
      exact (q.ob i o1 a e1 e2').mono l Iff.rfl (.inl rfl)
    · have hi' : i = h.length := by
        have := (List.getElem?_eq_some_iff.mp e1).1
        simp at this
        omega
      subst hi'
      rw [List.getElem?_append_right (Nat.le_refl _)] at e1
      simp at e1
      have e2 : (w.m ++ [p])[h.length]? = some a := e2
      rw [← q.len, List.getElem?_append_right (Nat.le_refl _)] at e2
      simp at e2
      subst e1 e2
      exact hob
  · obtain ⟨e1, e2, e3⟩ := q.pr x hx
    refine ⟨e1, e2, fun z => ?_⟩
    rcases List.mem_append.mp (show x.1 ∈ w.m ++ [p] from z) with z | z
    · exact e3 z
    · exact hP x hx (by simpa using z)
/-- how the list is handed on: f is known to hand it on, frozen or by number -/
def Hands (g : Gx) (E : XK) (f : List D → Hh → Res D) : Prop := ∀ (w w2 : Wd) (H H2 : Hp) (h2 : Hh) (p : Addr) (vs : List V) (es : List D) (Q : VK), OKg g (RV g) w H E Q (f es h2) → Later w H w2 H2 → HR g w2 h2 H2 → H2 p = some (.lst vs) → RVs g w2 H2 es vs → ¬ w2.F p → p ∉ w2.m → (∀ x ∈ w2.P, x.1 ≠ p) → Q (.ref p) H2
theorem hands_frz : Hands g E (fun es h2 => .ok (.lst es) h2) := fun w w2 H H2 h2 p vs es Q o l hr hp rv nF nm nP =>
  o (w2.frz p) H2 (.ref p) (l.trans (later_frz hr)) (hr_frz hr nm ⟨_, hp⟩ nP fun ps z => by rw [hp] at z; cases z) (.lst hp (.inl rfl) (rv.mono (later_frz hr)))
theorem hands_num : Hands g E (fun es h2 => .ok (.ref h2.length) (h2 ++ [.lst es])) := fun w w2 H H2 h2 p vs es Q o l hr hp rv nF nm nP => by
  have l0 : Later w2 H2 (w2.new p) H2 := ⟨⟨fun _ z => z, fun _ _ _ r => r, fun _ _ _ r => r, fun _ _ _ _ r => r, fun _ _ r => r, fun _ _ r => r, ⟨[p], rfl⟩⟩, rfl⟩
  obtain ⟨k1, k2⟩ := hr_num (o := .lst es) hr nm nP ⟨nF, vs, hp, rv.mono l0⟩
  exact o (w2.new p) H2 (.ref p) (l.trans k2) k1 (.ref (by show (w2.m ++ [p])[h2.length]? = some p; rw [← hr.len]; simp))
def xLcG (f : List D → Hh → Res D) (it : Fl) (own : List Nat) (t : Fg) (c : Ft) (e : Fn) : Fn := fun ρ h => (lcE it own t c e ρ h).bind f
theorem lc_rd {f : List D → Hh → Res D} (hf : ∀ E, Hands g E f) {fi : Fl} {is own : List Nat} {t : Fg} {c : Ft} {e : Fn} (hi : ∀ i ∈ is, i ∈ own) {Q : VK} (hq : tI g W (xLcG f fi own t c e) σ H Q) :
    tLc (tIt g W fi) (tG g is t) (tT g EF c) (tI g EF e) own σ H Q := by
  obtain ⟨w, ρ, h, sr, o⟩ := hq
  unfold xLcG lcE at o
  rw [bind_assoc] at o
  refine ⟨w, ρ, h, sr, (OKg.bind (R := RJ g) o).imp fun J H1 ⟨w1, ds, h1, l, hr1, jo, o1⟩ => ?_⟩
  split at o1
  · rename_i hz
    cases q : noX (lcL t c e (wipeR ρ own) ds h1) with
    | bad => rw [q] at o1; exact o1.elim
    | exc c0 d0 h0 =>
      exfalso
      cases q' : lcL t c e (wipeR ρ own) ds h1 <;> (rw [q'] at q; cases q)
    | ok es h2 =>
      rw [q] at o1
      exact lc_run (sr.step l hr1) jo hz hi (noX_inv q) fun w2 H2 p vs l2 hr2 hp rv nF nm nP => hf (wAt W σ) w1 w2 H1 H2 h2 p vs es Q o1 l2 hr2 hp rv nF nm nP
  · exact o1.elim
theorem q_pts0 : PTs X [] (tT g W yYes) := ⟨fun pins s σ H Q I ⟨w, ρ, h, sr, o⟩ => pts_nil.run pins s σ H Q I (o w H true (Later.refl w H) sr.hr rfl)⟩
end
end Bx
namespace Bx
open PySem PySem.Spec PyProof.Rows L2
mutual
inductive Bel (n : Nat) : D → Prop
  | non : Bel n .non
  | bl (b : Bool) : Bel n (.bl b)
  | int (i : Int) : Bel n (.int i)
  | str (x : Str) : Bel n (.str x)
  | val (v : V) : Bel n (.val v)
  | scr (ns : List Int) : Bel n (.scr ns)
  | ref {k : Nat} : k < n → Bel n (.ref k)
  | tup {ds : List D} : Bels n ds → Bel n (.tup ds)
  | lst {ds : List D} : Bels n ds → Bel n (.lst ds)
  | dct {kds : List (Key × D)} : Bels n (kds.map (·.2)) → Bel n (.dct kds)
  | obj {c : Str} {fds : List (Str × D)} : Bels n (fds.map (·.2)) → Bel n (.obj c fds)
  | exn {c : Str} {ds : List D} : Bels n ds → Bel n (.exn c ds)
  | cau {a : Addr} {d : Option Addr} {c : Str} {ds : List D} : Bels n ds → Bel n (.cau a d c ds)
inductive Bels (n : Nat) : List D → Prop
  | nil : Bels n []
  | cons {d : D} {ds : List D} : Bel n d → Bels n ds → Bels n (d :: ds)
end
theorem Bels.of {n : Nat} : ∀ {ds : List D}, (∀ d ∈ ds, Bel n d) → Bels n ds
  | [], _ => .nil
  | d :: ds, h => .cons (h d (List.mem_cons_self ..)) (Bels.of fun x hx => h x (List.mem_cons_of_mem _ hx))
theorem Bels.mem {n : Nat} : ∀ {ds : List D}, Bels n ds → ∀ d ∈ ds, Bel n d
  | _, .nil, d, h => by cases h
  | _, .cons a r, d, h => by
    rcases List.mem_cons.mp h with e | h
    · rw [e]; exact a
    · exact Bels.mem r d h
mutual
theorem Bel.mono {n m : Nat} (h : n ≤ m) : ∀ {d : D}, Bel n d → Bel m d
  | _, .non => .non
  | _, .bl b => .bl b
  | _, .int b => .int b
  | _, .str b => .str b
  | _, .val b => .val b
  | _, .scr b => .scr b
  | _, .ref k => .ref (Nat.lt_of_lt_of_le k h)
  | _, .tup b => .tup (Bels.mono h b)
  | _, .lst b => .lst (Bels.mono h b)
  | _, .dct b => .dct (Bels.mono h b)
  | _, .obj b => .obj (Bels.mono h b)
  | _, .exn b => .exn (Bels.mono h b)
  | _, .cau b => .cau (Bels.mono h b)
theorem Bels.mono {n m : Nat} (h : n ≤ m) : ∀ {d : List D}, Bels n d → Bels m d
  | _, .nil => .nil
  | _, .cons a b => .cons (Bel.mono h a) (Bels.mono h b)
end
def OB (n : Nat) : O → Prop
  | .lst ds => Bels n ds
  | .dct kds => Bels n (kds.map (·.2))
  | .ins _ fds => Bels n (fds.map (·.2))
  | .gone => True
def Keep (h h' : Hh) : Prop := ∀ (i : Nat) (o : O), i < h.length → h'[i]? = some o → h[i]? = some o ∨ OB h.length o
open Classical in
/-- what a call leaves: nothing that is not asked for -/
noncomputable def endC (h : Hh) (r : Res D) : Res D := match r with
  | .ok d h' => if Keep h h' then (if Bel h.length d then .ok d (h'.take h.length) else match d with
      | .ref k => match h'[k]? with
        | some o => if h.length ≤ k ∧ OB h.length o then .ok (.ref h.length) (h'.take h.length ++ [o]) else .ok d h'
        | none => .ok d h'
      | d => .ok d h') else .ok d h'
  | .exc c ds h' => if Keep h h' ∧ Bels h.length ds then .exc c ds (h'.take h.length) else .exc c ds h'
  | .bad => .bad
section
variable {g : Gx} {w w' : Wd} {H : Hp} {h : Hh} {n : Nat}
mutual
theorem RV.bel : ∀ {d : D} {v : V}, RV g w H d v → Bel w.m.length d
  | _, _, .non => .non
  | _, _, .bl b => .bl b
  | _, _, .int i => .int i
  | _, _, .str x => .str x
  | _, _, .tup _ t => .tup (RVs.bel t)
  | _, _, .lst _ _ t => .lst (RVs.bel t)
  | _, _, .dct _ _ t => .dct (RVs.bel t)
  | _, _, .obj _ _ _ _ t => .obj (RVs.bel t)
  | _, _, .exn _ _ _ t => .exn (RVs.bel t)
  | _, _, .cau0 _ => .cau .nil
  | _, _, .cau _ _ _ t => .cau (RVs.bel t)
  | _, _, .ref h => .ref (List.getElem?_eq_some_iff.mp h).1
  | _, _, .scr _ => .scr _
  | _, _, .val v => .val v
theorem RVs.bel : ∀ {ds : List D} {vs : List V}, RVs g w H ds vs → Bels w.m.length ds
  | _, _, .nil => .nil
  | _, _, .cons r t => .cons (RV.bel r) (RVs.bel t)
end
mutual
theorem RV.re (hm : ∀ k a, k < n → w.m[k]? = some a → w'.m[k]? = some a) (hF : ∀ a, w.F a → w'.F a) : ∀ {d : D} {v : V}, RV g w H d v → Bel n d → RV g w' H d v
  | _, _, .non, _ => .non
  | _, _, .bl b, _ => .bl b
  | _, _, .int i, _ => .int i
  | _, _, .str x, _ => .str x
  | _, _, .tup a t, .tup b => .tup a (RVs.re hm hF t b)
  | _, _, .lst a f t, .lst b => .lst a (hF _ f) (RVs.re hm hF t b)
  | _, _, .dct a e t, .dct b => .dct a e (RVs.re hm hF t b)
  | _, _, .obj a f e1 e2 t, .obj b => .obj a (hF _ f) e1 e2 (RVs.re hm hF t b)
  | _, _, .exn a e1 e2 t, .exn b => .exn ⟨hF _ a.1, a.2.imp id fun ⟨d, z1, z2, z3⟩ => ⟨d, z1, hF _ z2, z3⟩⟩ e1 e2 (RVs.re hm hF t b)
  | _, _, .cau0 e, .cau _ => .cau0 e
  | _, _, .cau e1 e2 e3 t, .cau b => .cau e1 e2 e3 (RVs.re hm hF t b)
  | _, _, .ref h, .ref k => .ref (hm _ _ k h)
  | _, _, .scr h, _ => .scr h
  | _, _, .val v, _ => .val v
theorem RVs.re (hm : ∀ k a, k < n → w.m[k]? = some a → w'.m[k]? = some a) (hF : ∀ a, w.F a → w'.F a) : ∀ {ds : List D} {vs : List V}, RVs g w H ds vs → Bels n ds → RVs g w' H ds vs
  | _, _, .nil, _ => .nil
  | _, _, .cons r t, .cons a b => .cons (RV.re hm hF r a) (RVs.re hm hF t b)
end
theorem or_ob {a : Addr} {o : O} (r : OR g w H a o) : OB w.m.length o := by
  cases o with
  | lst ds => obtain ⟨_, vs, _, t⟩ := r; exact t.bel
  | dct kds => obtain ⟨_, vs, _, _, t⟩ := r; exact t.bel
  | ins c fds => obtain ⟨_, C, dx, fs, _, _, _, t⟩ := r; exact t.bel
  | gone => trivial
theorem or_re {a : Addr} {o : O} (hm : ∀ k a, k < n → w.m[k]? = some a → w'.m[k]? = some a) (hF : w'.F = w.F) (r : OR g w H a o) (b : OB n o) : OR g w' H a o := by
  have hF' : ∀ a, w.F a → w'.F a := fun a z => by rw [hF]; exact z
  cases o with
  | lst ds => obtain ⟨n, vs, e, t⟩ := r; exact ⟨by rw [hF]; exact n, vs, e, t.re hm hF' b⟩
  | dct kds => obtain ⟨n, vs, e, e', t⟩ := r; exact ⟨by rw [hF]; exact n, vs, e, e', t.re hm hF' b⟩
  | ins c fds => obtain ⟨n, C, dx, fs, e, e1, e2, t⟩ := r; exact ⟨by rw [hF]; exact n, C, dx, fs, e, e1, e2, t.re hm hF' b⟩
  | gone => exact hF' a r
theorem take_at {α : Type} {l : List α} {n k : Nat} {a : α} (hk : k < n) (e : l[k]? = some a) : (l.take n)[k]? = some a := by rw [List.getElem?_take_of_lt hk]; exact e
theorem hr_cut (q : HR g w h H) (hb : ∀ i o, i < n → h[i]? = some o → OB n o) : HR g ⟨w.m.take n, w.F, w.P⟩ (h.take n) H := by
  refine ⟨by simp [q.len], (List.take_sublist n w.m).nodup q.nd, q.fz, fun i o a e1 e2 => ?_, fun p hp => ?_, q.tb, q.nt, q.pm⟩
  · have hi : i < n := by
      have z := (List.getElem?_eq_some_iff.mp e1).1
      rw [List.length_take] at z
      omega
    rw [List.getElem?_take_of_lt hi] at e1
    have e2' : (w.m.take n)[i]? = some a := e2
    rw [List.getElem?_take_of_lt hi] at e2'
    exact or_re (w' := ⟨w.m.take n, w.F, w.P⟩) (fun k a hk e => take_at hk e) rfl (q.ob i o a e1 e2') (hb i o hi e1)
  · obtain ⟨k1, k2, k3⟩ := q.pr p hp
    exact ⟨k1, k2, fun z => k3 (List.mem_of_mem_take z)⟩
theorem hr_ren (q : HR g w h H) (hn : n ≤ h.length) (hb : ∀ i o, i < n → h[i]? = some o → OB n o) {k : Nat} {o : O} {a : Addr} (hk : n ≤ k) (ho : h[k]? = some o) (ha : w.m[k]? = some a) (hob : OB n o) : HR g ⟨w.m.take n ++ [a], w.F, w.P⟩ (h.take n ++ [o]) H := by
  have hl : (w.m.take n).length = n := by rw [List.length_take, q.len]; omega
  have hl2 : (h.take n).length = n := by rw [List.length_take]; omega
  have re : ∀ k b, k < n → w.m[k]? = some b → (w.m.take n ++ [a])[k]? = some b := fun k b hk e => by
    rw [List.getElem?_append_left (by rw [hl]; exact hk)]
    exact take_at hk e
  have na : a ∉ w.m.take n := fun z => by
    obtain ⟨i, hi, e⟩ := List.getElem_of_mem z
    rw [hl] at hi
    have e1 : w.m[i]? = some a := by
      rw [List.getElem_take] at e
      rw [List.getElem?_eq_getElem (by rw [q.len]; omega), e]
    obtain ⟨h1, e1'⟩ := List.getElem?_eq_some_iff.mp ha
    obtain ⟨h2, e2'⟩ := List.getElem?_eq_some_iff.mp e1
    have := (List.getElem_inj q.nd).mp (e1'.trans e2'.symm)
    omega
  refine ⟨?_, ?_, q.fz, fun i o1 b e1 e2 => ?_, fun p hp => ?_, q.tb, q.nt, q.pm⟩
  · show (w.m.take n ++ [a]).length = _
    rw [List.length_append, List.length_append, hl, hl2]
    rfl
  · show (w.m.take n ++ [a]).Nodup
    rw [List.nodup_append]
    refine ⟨(List.take_sublist n w.m).nodup q.nd, by simp, fun b hb c hc => ?_⟩
    have : c = a := by simpa using hc
    subst this
    exact fun z => na (z ▸ hb)
  · by_cases hi : i < n
    · rw [List.getElem?_append_left (by rw [hl2]; exact hi), List.getElem?_take_of_lt hi] at e1
      have e2' : (w.m.take n ++ [a])[i]? = some b := e2
      rw [List.getElem?_append_left (by rw [hl]; exact hi), List.getElem?_take_of_lt hi] at e2'
      exact or_re (w' := ⟨w.m.take n ++ [a], w.F, w.P⟩) re rfl (q.ob i o1 b e1 e2') (hb i o1 hi e1)
    · have z := (List.getElem?_eq_some_iff.mp e1).1
      rw [List.length_append, hl2, List.length_singleton] at z
      have hi' : i = n := by omega
      subst hi'
      rw [List.getElem?_append_right (by rw [hl2]; exact Nat.le_refl _), hl2, Nat.sub_self] at e1
      have e2' : (w.m.take i ++ [a])[i]? = some b := e2
      rw [List.getElem?_append_right (by rw [hl]; exact Nat.le_refl _), hl, Nat.sub_self] at e2'
      simp at e1 e2'
      subst e1 e2'
      exact or_re (w' := ⟨w.m.take i ++ [a], w.F, w.P⟩) re rfl (q.ob k o a ho ha) hob
  · obtain ⟨k1, k2, k3⟩ := q.pr p hp
    refine ⟨k1, k2, fun z => ?_⟩
    rcases List.mem_append.mp (show p.1 ∈ w.m.take n ++ [a] from z) with z | z
    · exact k3 (List.mem_of_mem_take z)
    · exact k3 (by have : p.1 = a := by simpa using z
                   rw [this]; exact List.mem_of_getElem? ha)
end
section
variable {g : Gx} {w w' : Wd} {H H' : Hp} {h h' : Hh} {E : XK} {Q : VK}
theorem Later.cut (l : Later w H w' H') (x : List Addr) : Later w H ⟨w'.m.take w.m.length ++ x, w'.F, w'.P⟩ H' := by
  obtain ⟨y, e⟩ := l.ext
  exact ⟨⟨l.frz, l.lst, l.sf, l.ins, l.tup, l.xd, ⟨x, by show w'.m.take w.m.length ++ x = _; rw [e, List.take_left]⟩⟩, l.pr⟩
theorem keep_ob (hr : HR g w h H) (k : Keep h h') : ∀ i o, i < h.length → h'[i]? = some o → OB h.length o := fun i o hi e => by
  rcases k i o hi e with z | z
  · have hi' : i < w.m.length := by rw [hr.len]; exact hi
    have ha : w.m[i]? = some w.m[i] := List.getElem?_eq_getElem hi'
    have := or_ob (hr.ob i o _ z ha)
    rw [hr.len] at this
    exact this
  · exact z
theorem len_le (hr : HR g w h H) (hr' : HR g w' h' H') (l : Later w H w' H') : h.length ≤ h'.length := by
  obtain ⟨y, e⟩ := l.ext
  have := congrArg List.length e
  rw [List.length_append, hr.len, hr'.len] at this
  omega
theorem OKg.endC {r : Res D} (hr : HR g w h H) (o : OKg g (RV g) w H E Q (endC h r)) : OKg g (RV g) w H E Q r := by
  have hl := hr.len
  cases r with
  | bad => exact o
  | exc c ds h' =>
    simp only [Bx.endC] at o
    split at o
    · rename_i k
      intro w' H' C d l hr' xr
      have hc := hr_cut (n := h.length) hr' (keep_ob hr k.1)
      have lc := l.cut []
      rw [List.append_nil, hl] at lc
      refine o _ H' C d lc hc ?_
      obtain ⟨x1, x2⟩ := xr
      refine ⟨x1, ?_⟩
      rcases x2 with x2 | ⟨a, fs, y1, y2, y0, y3⟩
      · exact .inl x2
      · exact .inr ⟨a, fs, y1, y2, y0, RVs.re (w' := ⟨w'.m.take h.length, w'.F, w'.P⟩) (fun k a hk e => take_at hk e) (fun _ z => z) y3 k.2⟩
    · exact o
  | ok d h' =>
    simp only [Bx.endC] at o
    split at o
    · rename_i k
      split at o
      · rename_i b
        intro w' H' v l hr' rv
        have hc := hr_cut (n := h.length) hr' (keep_ob hr k)
        have lc := l.cut []
        rw [List.append_nil, hl] at lc
        exact o _ H' v lc hc (RV.re (w' := ⟨w'.m.take h.length, w'.F, w'.P⟩) (fun k a hk e => take_at hk e) (fun _ z => z) rv b)
      · split at o
        · split at o
          · rename_i kk o1 e1
            split at o
            · rename_i z
              intro w' H' v l hr' rv
              cases rv with
              | @ref _ a ha =>
                have hc := hr_ren (n := h.length) hr' (len_le hr hr' l) (keep_ob hr k) z.1 e1 ha z.2
                have lc := l.cut [a]
                rw [hl] at lc
                refine o _ H' (.ref a) lc hc (.ref ?_)
                show (w'.m.take h.length ++ [a])[h.length]? = some a
                have h1 : (w'.m.take h.length).length = h.length := by
                  rw [List.length_take, hr'.len]
                  have := len_le hr hr' l
                  omega
                rw [List.getElem?_append_right (by rw [h1]; exact Nat.le_refl _), h1, Nat.sub_self]
                rfl
            · exact o
          · exact o
        · exact o
    · exact o
theorem keep_refl (h : Hh) : Keep h h := fun i o _ e => .inl e
theorem keep_app (h x : Hh) : Keep h (h ++ x) := fun i o hi e => .inl (by rwa [List.getElem?_append_left hi] at e)
theorem endC_same {d : D} {h h' : Hh} (hl : h'.length = h.length) (k : Keep h h') (hb : Bel h.length d) : Bx.endC h (.ok d h') = .ok d h' := by
  simp only [Bx.endC, if_pos k, if_pos hb]
  rw [List.take_of_length_le (Nat.le_of_eq hl)]
/-- the heap is as long as ahead: nothing is cut, whatever is given -/
theorem endC_len {d : D} {h h' : Hh} (hl : h'.length = h.length) : Bx.endC h (.ok d h') = .ok d h' := by
  simp only [Bx.endC]
  split
  · split
    · rw [List.take_of_length_le (Nat.le_of_eq hl)]
    · rename_i nb
      split
      · rename_i k
        split
        · rename_i o e
          split
          · rename_i z
            have := (List.getElem?_eq_some_iff.mp e).1
            omega
          · rfl
        · rfl
      · rfl
  · rfl
@[simp] theorem endC_cons {d : D} {o o' : O} {r : Hh} : Bx.endC (o :: r) (.ok d (o' :: r)) = .ok d (o' :: r) := endC_len rfl
@[simp] theorem endC_self {d : D} {h : Hh} : Bx.endC h (.ok d h) = .ok d h := endC_len rfl
theorem endC_xlen {c : Str} {ds : List D} {h h' : Hh} (hl : h'.length = h.length) : Bx.endC h (.exc c ds h') = .exc c ds h' := by
  simp only [Bx.endC]
  split
  · rw [List.take_of_length_le (Nat.le_of_eq hl)]
  · rfl
@[simp] theorem endC_xcons {c : Str} {ds : List D} {o o' : O} {r : Hh} : Bx.endC (o :: r) (.exc c ds (o' :: r)) = .exc c ds (o' :: r) := endC_xlen rfl
@[simp] theorem endC_xself {c : Str} {ds : List D} {h : Hh} : Bx.endC h (.exc c ds h) = .exc c ds h := endC_xlen rfl
theorem endC_cut {d : D} {h x : Hh} (hb : Bel h.length d) : Bx.endC h (.ok d (h ++ x)) = .ok d h := by
  simp only [Bx.endC, if_pos (keep_app h x), if_pos hb, List.take_left']
theorem endC_new {h x : Hh} {k : Nat} {o : O} (ho : (h ++ x)[k]? = some o) (hk : h.length ≤ k) (hb : OB h.length o) : Bx.endC h (.ok (.ref k) (h ++ x)) = .ok (.ref h.length) (h ++ [o]) := by
  have nb : ¬ Bel h.length (.ref k) := fun z => by
    cases z with
    | ref z => omega
  simp only [Bx.endC, if_pos (keep_app h x), if_neg nb, ho, if_pos (And.intro hk hb), List.take_left']
end
end Bx
namespace Bx
open PySem PySem.Spec PyProof.Rows L2

/-- room for k calls, four in reserve, and no repr under way -/
structure RmG (k : Nat) (A : Around) : Prop where
  rm : Room (3 * k + 4) A
  gd : A.guards = some []
/-- in a def's body: two more, for a lambda that is handed to a def -/
structure RmH (k : Nat) (A : Around) : Prop extends RmG k A where
  more : Room (3 * k + 6) A
/-- the def at f keeps its promise (as FnOk, where no repr is under way) -/
structure FnG (P : Program) (w : World) (g : Gx) (base : Heap) (CX : CXT) (k : Nat) (f : Addr) (fd : FuncData) (ps : List Str) (sp : Sp) : Prop where
  len : ∀ vs H Q E, sp vs H Q E → vs.length = ps.length
  go : ∀ (A : Around) (out : List Env) (s : Shared) (H : Hp) (ar : Args) (us : List Value) (vs : List V) (Q : VK) (E : XK), RmG k A → Env0 P w g.K g.mg base A out s H → BindsTo s fd ar (ps.zip us) → Vals vs us → sp vs H Q E →
    codeAny (model P w) A (.call (.ref f) ar) (CR CX out P w H s Q E) s

/-- a def: how many parameters, how many names, what its body does -/
structure Fd where
  np : Nat
  nl : Nat
  body : (Str → List D → Hh → Res D) → Fs
abbrev Tab := Str → Option Fd
def startR (n : Nat) (ds : List D) : Rho := ds.map some ++ List.replicate (n - ds.length) none
/-- what a body's end gives -/
def endB : SRes → Res D
  | .rt d h => .ok d h
  | .nx _ h => .ok .non h
  | .exc c ds _ h => .exc c ds h
  | _ => .bad
noncomputable def callN (T : Tab) : Nat → Str → List D → Hh → Res D
  | 0, _, _, _ => .bad
  | k + 1, f, ds, h => match T f with
    | none => .bad
    | some fd => if ds.length = fd.np then endC h (endB (fd.body (callN T k) (startR fd.nl ds) h)) else .bad
def spN (g : Gx) (c : List D → Hh → Res D) (n : Nat) : Sp := fun vs H Q E => ∃ w h ds, HR g w h H ∧ RVs g w H ds vs ∧ ds.length = n ∧ OKg g (RV g) w H E Q (c ds h)

section
variable {g : Gx} {w : Wd} {H : Hp} {h : Hh}
theorem rvs_start {ds : List D} {vs : List V} {N : List Str} (hr : HR g w h H) (r : RVs g w H ds vs) : SR g w (startR N.length ds) h (start N vs) H := by
  refine ⟨hr, fun i d e => ?_, ?_⟩
  · unfold startR at e
    by_cases hi : i < ds.length
    · rw [List.getElem?_append_left (by simpa using hi), List.getElem?_map, Option.map_eq_some_iff] at e
      obtain ⟨d', e1, e2⟩ := e
      cases e2
      obtain ⟨v, e3, rv⟩ := r.get e1
      refine ⟨v, ?_, rv⟩
      unfold L2.start
      rw [List.getElem?_append_left (by rw [List.length_map, ← r.length]; exact hi), List.getElem?_map, e3]
      rfl
    · rw [List.getElem?_append_right (by simpa using hi), List.getElem?_replicate] at e
      split at e <;> cases e
  · unfold startR L2.start
    rw [List.length_append, List.length_append, List.length_map, List.length_map, List.length_replicate, List.length_replicate, r.length]
end

section
variable {P : Program} {wo : World} {g : Gx} {base : Heap} {T : Tab} {k : Nat}
/-- what is known of the defs of T at the level k -/
def Defs (P : Program) (wo : World) (g : Gx) (base : Heap) (T : Tab) (k : Nat) : Prop := ∀ (x : Str) (fd : Fd), T x = some fd →
  ∃ f fdat ps, g.mg x = some (.ref f) ∧ PySem.W.keepIn g.K (.ref f) = true ∧ Binds g.K fdat ps [] ∧ ps.length = fd.np ∧ FnG P wo g base (L2.CX P wo) k f fdat ps (spN g (callN T k x) fd.np)

variable {X : Cx}
/-- f(e, ..) -/
theorem q_call {W : WX} {x : Str} {p pos : Pos} {e : Expr} {es : List Expr} {fs : Fl} {fd : Fd} (xo : XO g X) (hP : X.prog = P) (hw : X.w = wo) (hb : X.base = base) (DS : Defs P wo g base T k) (hx : T x = some fd) (hr : RmG k X.A) (tk : Takes X W) (hg : Gl X x) (ha : PA X (e :: es) (tL g W fs))
    (hdb : (x == ("__debug__" : Str)) = false := by decide +kernel) (he : starEach (e :: es) X.env = (false, eval e X.env) :: starEach es X.env := by rfl) (hpl : (backTo pos (starEach es X.env)).any (·.1) = false := by rfl) :
    PE X (.Call (.Name x p) (e :: es) [] pos) (tI g W (xCall fd.np (callN T k x) fs)) := by
  obtain ⟨f, fdat, ps, hm, hk, hbi, hl, F⟩ := DS x fd hx
  subst hP hw hb
  rw [← xo.mg] at hm
  rw [← xo.K] at hk
  refine ⟨fun pins s σ H Q I ⟨w, ρ, h, sr, o⟩ => ?_⟩
  refine wpAny_Call_Name_kw (ld_glob I hg hm ?_ hdb)
  have ar : tL g W fs σ H (fun vs H1 => spN g (callN T k x) fd.np vs H1 Q (wAt W σ)) := tL_go sr o fun Vs H1 w1 ds h1 l sr1 rvs o1 => by
    split at o1
    · rename_i hn
      exact ⟨w1, h1, ds, sr1.hr, rvs, hn, o1⟩
    · exact o1.elim
  refine PySem.W.callWith_K (h₀ := X.base) I.ok.mod.kin hk (thn (ha.run pos pins s σ H _ I ar) fun us s1 ⟨vs, H1, I1, r, q⟩ => ⟨I1.kIn, ?_⟩) he hpl
  have hlen : us.length = ps.length := by rw [← r.length]; exact F.len _ _ _ _ q
  have env1 : Env0 X.prog X.w g.K g.mg X.base X.A X.stack s1 H1 := by have z := I1.env0; rw [xo.K, xo.mg] at z; exact z
  have bd : BindsTo s1 fdat ⟨us, []⟩ (ps.zip us) := by
    have z := hbi s1 us (by rw [← xo.K]; exact I1.kIn) (by simpa using hlen)
    rwa [List.append_nil] at z
  refine wpAny_call (codeAny_mono (F.go X.A X.stack s1 H1 ⟨us, []⟩ us vs Q (wAt W σ) hr env1 bd r q) fun res s' hq => ?_)
  cases res with
  | error ex => exact tk ex s' (XE.of_call I1 (fun _ _ _ z => z) hq)
  | ok fl =>
    cases fl with
    | ret u => exact I1.after hq
    | next => exact hq.elim
    | brk => exact hq.elim
    | cont => exact hq.elim

/-- the context of a def's body -/
abbrev bx (P : Program) (wo : World) (g : Gx) (base : Heap) (N : List Str) (qual : Str) (scope : Scope) (f : Addr) (cdv : Value) (A : Around) (out : List Env) (s : Shared) (H : Hp) (E : XK) : Cx := cxOf (L2.CX P wo) P wo g.K g.mg base N qual scope f cdv A out s H E
theorem bx_ok {N ps : List Str} {qual : Str} {scope : Scope} {f : Addr} {cdv : Value} {A : Around} {out : List Env} {s : Shared} {H : Hp} {E : XK} (S : FnScope N ps scope) (hr : RmG k (A.deeper (envOfC qual scope s.heap.objs.size f cdv))) : XO g (bx P wo g base N qual scope f cdv A out s H E) :=
  ⟨⟨rfl, rfl, S.nd, by have z := hr.rm.un; show (A.deeper _).units + 200 < cLine; omega, hr.gd⟩, rfl⟩
/-- a def by its body, its code object known -/
theorem fnG_cd {f : Addr} {x qual : Str} {st : Stmt} {N ps : List Str} {fd : Fd} {oc kV doc pm cdv ct : Value} {od an : Option Addr} {osl : Array (Option Value)}
    (lk : g.K.lookup f = some ⟨oc, od, .func (PySem.W.fnOf x qual (defArgs st) (defBody st) (defScope st) .none kV doc pm an cdv ct), osl⟩) (hcd : PySem.W.codeIn g.K cdv qual = true) (S : FnScope N ps (defScope st)) (hnp : ps.length = fd.np) (hnl : N.length = fd.nl)
    (hb : ∀ (A : Around) (out : List Env) (s : Shared) (H : Hp) (E : XK), RmH k (A.deeper (envOfC qual (defScope st) s.heap.objs.size f cdv)) → PSs (bx P wo g base N qual (defScope st) f cdv A out s H E) (defBody st) (tS g (fun c d _ H => E c d H) (fd.body (callN T k))))
    {y : Str} (hT : T y = some fd) : FnG P wo g base (L2.CX P wo) (k + 1) f (PySem.W.fnOf x qual (defArgs st) (defBody st) (defScope st) .none kV doc pm an cdv ct) ps (spN g (callN T (k + 1) y) fd.np) := by
  have len : ∀ vs H Q E, spN g (callN T (k + 1) y) fd.np vs H Q E → vs.length = ps.length := fun vs H Q E ⟨w, h, ds, _, r, hn, _⟩ => by rw [← r.length, hn, hnp]
  refine ⟨len, fun A out s H ar us vs Q E hr e0 hbd r hsp => ?_⟩
  have KX : g.K.In s.heap := e0.mod.kin.keeps fun b o e => (e0.bs b o e).1
  have lim : s.heap.NoLimit := e0.mod.nolimit.keeps fun b o e => (e0.bs b o e).1
  have kinds : ∀ z ∈ ps.zip us, (defScope st).names.lookup z.1 = some .local ∨ ((defScope st).names.lookup z.1 = some .cell ∧ ((cellsFrom (s.heap.objs.size + 1) (defScope st).names []).lookup z.1).isSome = true) := fun ⟨n, v⟩ hz => by
    rcases S.par n (List.of_mem_zip hz).1 with q | q
    · exact .inl q
    · exact .inr ⟨q, PySem.W.cellsFrom_some _ _ _ (.inl q)⟩
  refine codeAny_call_function hr.rm.depth (KX _ _ lk) rfl S.co S.gen rfl (PySem.W.codeRec_of KX hcd) (hbd _ _ _ _ ?_)
  refine wpAny_newFunctionEnv_cells S.kind kinds fun env he s1 xx => ?_
  subst he
  refine ⟨lim.keeps xx.toInCall.keep, codeAny_func ?_⟩
  have hr3 : Room (3 * k + 6) (A.deeper (envOfC qual (defScope st) s.heap.objs.size f cdv)) := Room.deeper (hr.rm.mono (by omega)) _
  have hr2 : RmH k (A.deeper (envOfC qual (defScope st) s.heap.objs.size f cdv)) := ⟨⟨hr3.mono (by omega), hr.gd⟩, hr3⟩
  have hPS : PSs (cxOf (L2.CX P wo) P wo g.K g.mg base N qual (defScope st) f cdv A out s H E) (defBody st) (tS g (fun c d _ H => E c d H) (fd.body (callN T k))) := hb A out s H E hr2
  have hl := len _ _ _ _ hsp
  have I : Inv (cxOf (L2.CX P wo) P wo g.K g.mg base N qual (defScope st) f cdv A out s H E) [] (start N vs) H s1 := inv_start S hr.rm.hd e0 hl r xx
  obtain ⟨w, h, ds, hr0, rvs, hn, o⟩ := hsp
  have rd : tS g (fun c d _ H => E c d H) (fd.body (callN T k)) { nx := fun _ H' => Q .non H', rt := Q } (start N vs) H := by
    refine ⟨w, startR N.length ds, h, rvs_start hr0 rvs, ?_⟩
    simp only [callN, hT, hn, if_true] at o
    rw [hnl]
    have o := OKg.endC hr0 o
    generalize fd.body (callN T k) (startR fd.nl ds) h = r0 at o
    cases r0 with
    | rt d h' => exact o
    | nx ρ h' => exact fun w' H' σ' l sr => o w' H' .non l sr.hr .non
    | bk ρ h' => exact o.elim
    | ct ρ h' => exact o.elim
    | exc c d ρ' h' => exact fun w' H' σ' C dd l sr xr => o w' H' C dd l sr.hr xr
    | bad => exact o.elim
  refine wpAny_mono (hPS.run [] s1 (start N vs) H _ I rd) (fun fl s' hs => ?_) fun e s' hs => hs
  cases fl with
  | ret u =>
    obtain ⟨v, σ', H', J, rv, q⟩ := hs
    exact ⟨v, H', J.os, J.bare, J.base, J.hok, rv, q⟩
  | next =>
    obtain ⟨σ', H', J, q⟩ := hs
    exact ⟨.non, H', J.os, J.bare, J.base, J.hok, rfl, q⟩
  | brk => obtain ⟨_, _, _, q⟩ := hs; exact q.elim
  | cont => obtain ⟨_, _, _, q⟩ := hs; exact q.elim
/-- a def by its body -/
theorem fnG_of {f : Addr} {x qual : Str} {st : Stmt} {fdat : FuncData} {N ps : List Str} {fd : Fd} (F : Fun g.K x qual st f fdat) (S : FnScope N ps (defScope st)) (hnp : ps.length = fd.np) (hnl : N.length = fd.nl)
    (hb : ∀ (cdv : Value) (A : Around) (out : List Env) (s : Shared) (H : Hp) (E : XK), RmH k (A.deeper (envOfC qual (defScope st) s.heap.objs.size f cdv)) → PSs (bx P wo g base N qual (defScope st) f cdv A out s H E) (defBody st) (tS g (fun c d _ H => E c d H) (fd.body (callN T k))))
    {y : Str} (hT : T y = some fd) : FnG P wo g base (L2.CX P wo) (k + 1) f fdat ps (spN g (callN T (k + 1) y) fd.np) := by
  obtain ⟨oc, od, kV, doc, pm, an, cdv, ct, osl, rfl, lk, hcd⟩ := F.ex
  exact fnG_cd lk hcd S hnp hnl (fun A out s H E hr => hb cdv A out s H E hr) hT
/-- level 0: nothing is asked -/
theorem fnG_zero {f : Addr} {fdat : FuncData} {ps : List Str} {n : Nat} {y : Str} (hl : ps.length = n) : FnG P wo g base (L2.CX P wo) 0 f fdat ps (spN g (callN T 0 y) n) :=
  ⟨fun vs H Q E ⟨w, h, ds, _, r, hn, _⟩ => by rw [← r.length, hn, hl], fun _ _ _ _ _ _ _ _ _ _ _ _ _ ⟨_, _, _, _, _, _, o⟩ => o.elim⟩
/-- one row of facts a def -/
structure Row (P : Program) (wo : World) (g : Gx) (base : Heap) (T : Tab) (x : Str) (fd : Fd) : Prop where
  ex : ∃ (f : Addr) (fdat : FuncData) (ps : List Str), g.mg x = some (.ref f) ∧ PySem.W.keepIn g.K (.ref f) = true ∧ Binds g.K fdat ps [] ∧ ps.length = fd.np ∧
    ∀ k, Defs P wo g base T k → FnG P wo g base (L2.CX P wo) (k + 1) f fdat ps (spN g (callN T (k + 1) x) fd.np)
theorem defs_all (R : ∀ x fd, T x = some fd → Row P wo g base T x fd) : ∀ k, Defs P wo g base T k
  | 0 => fun x fd hx => by
    obtain ⟨f, fdat, ps, h1, h2, h3, h4, _⟩ := (R x fd hx).ex
    exact ⟨f, fdat, ps, h1, h2, h3, h4, fnG_zero h4⟩
  | k + 1 => fun x fd hx => by
    obtain ⟨f, fdat, ps, h1, h2, h3, h4, h5⟩ := (R x fd hx).ex
    exact ⟨f, fdat, ps, h1, h2, h3, h4, h5 k (defs_all R k)⟩
end
end Bx
namespace Bx
open PySem PySem.Spec PyProof.Rows L2
/-- what is known of the tables at the heap behind the top: ts, code objects and their tables -/
structure TabsAt (g : Gx) (h : Heap) (ts : List (Addr × Addr)) : Prop where
  emp : ∀ p ∈ ts, h.get? p.2 = some { cls := .none, data := .fields #[] }
  out : ∀ p ∈ ts, g.K.lookup p.2 = none
  cod : ∀ p ∈ ts, PySem.W.CodeHd h p.1 p.2
  all : ∀ q ∈ g.T, ∃ p ∈ ts, p.2 = q.1
/-- the law's call, at the heap behind the top: the tree's run says True -/
theorem law_goes {P : Program} {wo : World} {g : Gx} {mb : Str → Option Value} {k : Nat} {fa a : Addr} {T : Tab} {y : Str} {s₁ : Shared} {vs : List Value} {ns : List Int} {hE : Hh} {fd : FuncData} {x : Str} {ts : List (Addr × Addr)}
    (KX : g.K.In s₁.heap) (hns : s₁.heap.Ns mainGlobals g.mg) (hb : s₁.heap.Ns builtinsNs mb) (hbb : ∀ x : Str, x ≠ "__name__" → mb x = bootBuiltins x) (hlim : s₁.heap.NoLimit) (hg : s₁.gens = #[])
    (TA : TabsAt g s₁.heap ts) (hbm : ∃ (bm : Addr) (ob : Obj), g.mg "__builtins__" = some (.ref bm) ∧ bm ≠ builtinsNs ∧ s₁.heap.get? bm = some ob ∧ ob.cls = .type "module" ∧ ob.dict = some builtinsNs ∧ ob.data = .plain)
    (ha : s₁.heap.get? a = some { cls := .type "list", data := .seq vs.toArray }) (hi : IntsAre vs ns) (hl : ns.length ≤ sizeLine) (hr : RmG k callerA)
    (F : ∀ base : Heap, g.K.In base → base.Ns mainGlobals g.mg → (∀ p ∈ ts, LamX.TabB base g.mg p.1 p.2) → FnG P wo g base (L2.CX P wo) k fa fd [x] (spN g (callN T k y) 1)) (hbind : ∀ (s : Shared) (u : Value), BindsTo s fd ⟨[u], []⟩ [(x, u)])
    (hrun : callN T k y [.scr ns] [] = .ok (.bl true) hE) :
    codeAny (model P wo) callerA (.call (.ref fa) ⟨[.ref a], []⟩) (fun r s' => r = .ok (.ret (.bool true)) ∧ OldK s₁.heap s'.heap ∧ s'.os = s₁.os ∧ AllBare s'.gens) s₁ := by
  have rv := vals_ints hi
  have lenV := hi.length
  -- a table's object is nothing else
  have isTb : ∀ {b : Addr} {o : Obj}, (∃ p ∈ ts, p.2 = b) → s₁.heap.get? b = some o → o.data = .fields #[] := fun {b o} ⟨p, hp, e⟩ z => by
    have z2 := TA.emp p hp
    rw [e, z] at z2
    cases z2
    rfl
  have aT : ¬ ∃ p ∈ ts, p.2 = a := fun z => by
    have z1 := isTb z ha
    cases z1
  -- H tells of nothing but the script and the tables
  have main : ∀ H : Hp, (∀ b u, H b = some u → (b = a ∧ ∃ o xs, u = .frz o (.lst xs)) ∨ ((∃ p ∈ ts, p.2 = b) ∧ u = .tbl #[])) → (∀ p ∈ ts, H p.2 = some (.tbl #[])) → ScrAt g H a ns → HOk P wo H s₁.heap → (∀ u, H a = some u → g.K.lookup a = none) →
      codeAny (model P wo) callerA (.call (.ref fa) ⟨[.ref a], []⟩) (fun r s' => r = .ok (.ret (.bool true)) ∧ OldK s₁.heap s'.heap ∧ s'.os = s₁.os ∧ AllBare s'.gens) s₁ := by
    intro H only tabs hS hok hK
    have none_of : ∀ {b : Addr}, (∀ u, H b = some u → False) → H b = none := fun {b} z => by
      cases q : H b with
      | none => rfl
      | some u => exact (z u q).elim
    have free : ∀ {b : Addr} {o : Obj}, s₁.heap.get? b = some o → (∀ l n, o.data ≠ .seq l n) → o.data ≠ .fields #[] → H b = none := fun {b o} e d1 d2 => none_of fun u q => by
      rcases only b u q with ⟨rfl, _⟩ | ⟨t, _⟩
      · rw [ha] at e
        cases e
        exact d1 _ _ rfl
      · exact d2 (isTb t e)
    have dn : ∀ {b : Addr} {o : Obj} {es : Array DictEntry} {ep : Nat}, s₁.heap.get? b = some o → o.data = .dict es ep → H b = none := fun {b o es ep} e d => free e (fun l n z => by rw [d] at z; cases z) (fun z => by rw [d] at z; cases z)
    have ns_of : ∀ {b : Addr} {m : Str → Option Value}, s₁.heap.Ns b m → (hidT s₁.heap H).Ns b m := fun {b m} ⟨o, es, ep, e, d, r⟩ => ⟨o, es, ep, hidT_get e (dn e d), d, r⟩
    have kb : g.K.In (hidT s₁.heap H) := fun b o e => hidT_get (KX b o e) (none_of fun u q => by
      rcases only b u q with ⟨rfl, _⟩ | ⟨⟨p, hp, rfl⟩, _⟩
      · rw [hK u q] at e
        cases e
      · rw [TA.out p hp] at e
        cases e)
    have md : Mod g.K g.mg (hidT s₁.heap H) := ⟨kb, ns_of hns, ⟨mb, ns_of hb, hbb⟩, let ⟨mc, z1, z2⟩ := hlim; ⟨mc, ns_of z1, z2⟩⟩
    have ev : Env0 P wo g.K g.mg (hidT s₁.heap H) callerA [] s₁ H := ⟨rfl, md, fun b o e => of_hidT e, Nat.le_of_eq (hidT_size _ _), trivial, fun b z => absurd (show b ∈ ([] : List Addr) from z) (by simp), hok, .of_eq hg⟩
    have TB : ∀ p ∈ ts, LamX.TabB (hidT s₁.heap H) g.mg p.1 p.2 := fun p hp => by
      obtain ⟨o, us, f1, f2, f3, f4, f5, f6, f7, e1, r1, r2, r3, rest⟩ := TA.cod p hp
      obtain ⟨bm, ob, b1, b2, b3, b4, b5, b6⟩ := hbm
      have noP : ∀ {b : Addr} {u : Obj}, s₁.heap.get? b = some u → u.data ≠ .fields #[] → b ≠ p.2 := fun {b u} e d z => d (isTb ⟨p, hp, z.symm⟩ e)
      have hm : bm ≠ mainGlobals := fun z => by
        obtain ⟨og, es, ep, eg, dg, _⟩ := hns
        rw [z, eg] at b3
        cases b3
        rw [dg] at b6
        cases b6
      refine ⟨⟨o, us, f1, f2, f3, f4, f5, f6, f7, hidT_get e1 (free e1 (fun l n z => by rw [r2] at z; cases z) fun z => ?_), r1, r2, r3, rest⟩, ⟨bm, ob, b1, b2, hm, noP b3 (fun z => by rw [b6] at z; cases z), hidT_get b3 (free b3 (fun l n z => by rw [b6] at z; cases z) (fun z => by rw [b6] at z; cases z)), b4, b5, b6⟩, fun z => ?_⟩
      · rw [r2] at z
        cases z
        simp at r3
      · obtain ⟨og, es, ep, eg, dg, _⟩ := hns
        exact noP eg (fun y => by rw [dg] at y; cases y) z
    have sp : spN g (callN T k y) 1 [.ref a] H (fun v _ => v = .bl true) (fun _ _ _ => False) := by
      refine ⟨⟨[], fun _ => False, []⟩, [], [.scr ns], ⟨rfl, List.nodup_nil, fun _ z => z.elim, fun i o b e => by simp at e, fun p z => absurd (show p ∈ ([] : List (Addr × HO)) from z) (by simp), fun q hq => ?_, fun _ _ z => z.elim, fun p z => absurd (show p ∈ ([] : List (Addr × HO)) from z) (by simp)⟩, .cons (.scr hS) .nil, rfl, ?_⟩
      · obtain ⟨p, hp, e⟩ := TA.all q hq
        exact LamX.TabS.nil (by rw [← e]; exact tabs p hp)
      rw [hrun]
      intro w' H' v _ _ r
      cases r
      rfl
    refine codeAny_mono ((F _ kb (ns_of hns) TB).go callerA [] s₁ H ⟨[.ref a], []⟩ [.ref a] [.ref a] _ _ hr ev (hbind s₁ (.ref a)) (.cons rfl .nil) sp) fun r s' q => ?_
    cases r with
    | error e =>
      obtain ⟨_, _, _, _, _, _, _, _, _, _, _, _, z⟩ := q
      exact z.elim
    | ok fl =>
      cases fl with
      | next => exact q.elim
      | brk => exact q.elim
      | cont => exact q.elim
      | ret u =>
        obtain ⟨v, H', os, bare, un, hok', r', qv⟩ := q
        have qv' : v = .bl true := qv
        subst qv'
        obtain rfl : u = Value.bool true := r'
        have keep : ∀ b o, s₁.heap.get? b = some o → (s'.heap.get? b = some o) ∨ ∃ p ∈ ts, p.2 = b := fun b o e => by
          cases hb' : H b with
          | none => exact .inl (un.keep b o e hb' (fun z => absurd (show b ∈ ([] : List Addr) from z) (by simp)) (by simp))
          | some u =>
            rcases only b u hb' with ⟨_, ob, xs, rfl⟩ | ⟨t, _⟩
            · have z2 := un.frzs b ob _ hb'
              obtain ⟨e1, _⟩ := hok b _ hb'
              obtain ⟨e2, _⟩ := hok' b _ z2
              rw [e] at e1
              cases e1
              exact .inl e2
            · exact .inr t
        have more : ∀ p ∈ ts, ∃ ms : Array Value, s'.heap.get? p.2 = some { cls := .none, data := .fields ms } := fun p hp => by
          obtain ⟨ms, z⟩ := un.tbls p.2 #[] (tabs p hp)
          exact ⟨_, hok' p.2 _ z⟩
        refine ⟨rfl, ⟨fun b o e => ?_, fun b o e => ?_⟩, os, bare⟩
        · rcases keep b o e with z | ⟨p, hp, z⟩
          · exact .inl z
          · subst z
            obtain ⟨ms, hm⟩ := more p hp
            have e0 := TA.emp p hp
            rw [e] at e0
            cases e0
            refine .inr (.inl ⟨((TA.cod p hp).tab (TA.emp p hp)).isCodeTable, rfl, #[], ms, rfl, ?_⟩)
            rw [Array.empty_append]
            exact hm
        · rcases keep b o e with z | ⟨p, hp, z⟩
          · exact ⟨_, z⟩
          · subst z
            obtain ⟨ms, hm⟩ := more p hp
            exact ⟨_, hm⟩
  classical
  cases hk : g.K.lookup a with
  | some o =>
    have e := KX a o hk
    rw [ha] at e
    cases e
    refine main (fun b => if ∃ p ∈ ts, p.2 = b then some (.tbl #[]) else none) (fun b u z => ?_) (fun p hp => if_pos ⟨p, hp, rfl⟩) (.inr ⟨_, vs.toArray, _, hk, rfl, rfl, rfl, by rw [List.size_toArray, lenV]; exact hl, by simpa using rv⟩) (fun b u z => ?_) fun u z => ?_
    · by_cases hb2 : ∃ p ∈ ts, p.2 = b
      · have z' := (if_pos hb2).symm.trans z
        cases z'
        exact .inr ⟨hb2, rfl⟩
      · have z' := (if_neg hb2).symm.trans z
        cases z'
    · by_cases hb2 : ∃ p ∈ ts, p.2 = b
      · have z' := (if_pos hb2).symm.trans z
        cases z'
        obtain ⟨p, hp, rfl⟩ := hb2
        exact TA.emp p hp
      · have z' := (if_neg hb2).symm.trans z
        cases z'
    · have z' := (if_neg aT).symm.trans z
      cases z'
  | none =>
    refine main (fun b => if b = a then some (.frz { cls := .type "list", data := .seq vs.toArray } (.lst (ns.map V.int))) else if ∃ p ∈ ts, p.2 = b then some (.tbl #[]) else none) (fun b u z => ?_) (fun p hp => ?_) (.inl ⟨_, if_pos rfl⟩) (fun b u z => ?_) fun u z => hk
    · by_cases hba : b = a
      · have z' := (if_pos hba).symm.trans z
        cases z'
        exact .inl ⟨hba, _, _, rfl⟩
      · have z1 := (if_neg hba).symm.trans z
        by_cases hb2 : ∃ p ∈ ts, p.2 = b
        · have z' := (if_pos hb2).symm.trans z1
          cases z'
          exact .inr ⟨hb2, rfl⟩
        · have z' := (if_neg hb2).symm.trans z1
          cases z'
    · have n : p.2 ≠ a := fun z => aT ⟨p, hp, z⟩
      exact (if_neg n).trans (if_pos ⟨p, hp, rfl⟩)
    · by_cases hba : b = a
      · have z' := (if_pos hba).symm.trans z
        cases z'
        subst hba
        exact ⟨ha, by rw [List.length_map]; exact hl, vs, _, rv, ha⟩
      · have z1 := (if_neg hba).symm.trans z
        by_cases hb2 : ∃ p ∈ ts, p.2 = b
        · have z' := (if_pos hb2).symm.trans z1
          cases z'
          obtain ⟨p, hp, rfl⟩ := hb2
          exact TA.emp p hp
        · have z' := (if_neg hb2).symm.trans z1
          cases z'
/-- the goal that k_head leaves -/
theorem law_walk {l : PySem.W.OpenLaw} {n k : Nat} {q : Program} {loose : List Str} {XP : (Str → Option Value) → Heap → Prop} {YP : World → Heap → Prop} {d : DefRec} {K : Params → PySem.W.Frag} {T : Tab} {x y : Str}
    (hn : l.most = some n) (hn2 : n ≤ sizeLine) (hdf : d.params.defaults = []) (hr : RmG k callerA) (hY : ∀ (w : World) (h : Heap), YP w h → (K w.params).In h)
    (F : ∀ (w : World) (mg : Str → Option Value) (fa : Addr) (h : Heap), (K w.params).In h → h.Ns mainGlobals mg → mg d.name = some (.ref fa) →
      ∃ fd : FuncData, (∀ (s : Shared) (u : Value), BindsTo s fd ⟨[u], []⟩ [(x, u)]) ∧ ∀ base : Heap, (K w.params).In base → base.Ns mainGlobals mg → FnG l.prog w ⟨K w.params, mg, []⟩ base (L2.CX l.prog w) k fa fd [x] (spN ⟨K w.params, mg, []⟩ (callN T k y) 1))
    (hrun : ∀ ns : List Int, ns.length ≤ n → ∃ hE, callN T k y [.scr ns] [] = .ok (.bl true) hE) :
    PySem.W.WalkO q loose XP YP l.row.toRowW d [] (fun f vs => PySem.call f vs) := by
  refine Att.attach_call hn hdf fun w s₀ s₁ mg mb fa o pm cd doc a vs ns G Y ho hd hcd hmg hobj hints hlen hg => ?_
  have KX := hY w _ Y
  obtain ⟨fd, hb, hF⟩ := F w mg fa _ KX G.T.g hmg
  obtain ⟨hE, he⟩ := hrun ns hlen
  exact law_goes (g := ⟨K w.params, mg, []⟩) (ts := []) KX G.T.g G.T.b G.T.builtins G.T.nolimit hg ⟨fun _ z => absurd z (by simp), fun _ z => absurd z (by simp), fun _ z => absurd z (by simp), fun _ z => absurd z (by simp)⟩ G.T.bmain hobj hints (Nat.le_trans hlen hn2) hr (fun base b1 b2 _ => hF base b1 b2) hb he
end Bx
namespace Bx
open PySem PySem.Spec PyProof.Rows L2

/-- a list of texts, or a tuple of them -/
def joinD (s : Str) (b : D) (h : Hh) : Res D := match asS h b with
  | some ds => match strsOf ds with
    | some ys => if decide ((ys.map (·.length)).sum + ys.length * s.length ≤ 16777216) then .ok (.str (Txt.join s ys)) h else .bad
    | none => .bad
  | none => .bad
def splitD (s : Str) (b : D) (h : Hh) : Res D := match b with
  | .str t => if !(t.length == 0) && decide (s.length + 2 ≤ sizeLine) then .ok (.lst ((Txt.split s t).map .str)) h else .bad
  | _ => .bad
def xStr1 (f : Str → D → Hh → Res D) (a b : Fn) : Fn := fun ρ h => (a ρ h).bind fun x h1 => match x with
  | .str s => (b ρ h1).bind fun y h2 => f s y h2
  | _ => .bad
/-- the methods of lists by number -/
def appD (a b : D) (h : Hh) : Res D := match a with
  | .ref n => match h[n]? with
    | some (.lst ds) => if decide (ds.length < sizeLine) then .ok .non (h.set n (.lst (ds ++ [b]))) else .bad
    | _ => .bad
  | _ => .bad
def extD (a b : D) (h : Hh) : Res D := match a with
  | .ref n => match h[n]?, asL h b with
    | some (.lst ds), some es => if sz (ds.length + es.length) then .ok .non (h.set n (.lst (ds ++ es))) else .bad
    | _, _ => .bad
  | _ => .bad
def clrD (a : D) (h : Hh) : Res D := match a with
  | .ref n => match h[n]? with
    | some (.lst ds) => .ok .non (h.set n (.lst []))
    | _ => .bad
  | _ => .bad
/-- written dicts -/
def xInW (wd : List (Str × D)) (a : Fn) : Fn := fun ρ h => (a ρ h).bind fun x h1 => match x with | .str z => .ok (.bl (wd.lookup z).isSome) h1 | _ => .bad
def optD (o : Option D) (h : Hh) : Res D := match o with | some d => .ok d h | none => .bad
def xIdxW (wd : List (Str × D)) (a : Fn) : Fn := fun ρ h => (a ρ h).bind fun x h1 => match x with | .str z => optD (wd.lookup z) h1 | _ => .bad
/-- the module's name x is a written dict with the entries wd -/
structure KW (g : Gx) (wo : World) (x : Str) (wd : List (Str × D)) : Prop where
  ex : ∃ (d : Addr) (es : Array DictEntry) (n : Nat), g.mg x = some (.ref d) ∧ KDict g.K wo d es n ∧ ∀ z : Str,
    (wd.lookup z = none ∧ PySem.W.nsIn g.K d z = some none) ∨ ∃ dd u v, wd.lookup z = some dd ∧ PySem.W.nsIn g.K d z = some (some u) ∧ RelV v u ∧ ∀ w H, RV g w H dd v

section
variable {g : Gx} {W : WX} {E : XK} {X : Cx} {a b o e : Expr} {fa fb : Fn} {pos p apos : Pos} {wd : List (Str × D)} {x : Str} {wo : World}
theorem q_inW (xo : XO g X) (hw : X.w = wo) (k : KW g wo x wd) (hg : Gl X x) (ha : PE X a (tI g W fa)) (hd : (x == ("__debug__" : Str)) = false := by decide +kernel) : PE X (.Compare a [.In] [.Name x p] pos) (tI g W (xInW wd fa)) := by
  obtain ⟨d, es, n, hm, kd, kn⟩ := k.ex
  subst hw
  rw [← xo.mg] at hm
  rw [← xo.K] at kd kn
  refine ⟨fun pins s σ H Q I ⟨w, ρ, h, sr, q⟩ => (pe_cmpR (op_in_kd kd) ha (pe_glob (v := .ref d) hg hm rfl hd) rfl).run pins s σ H Q I (tI_go sr q fun V H1 w1 x h1 l sr1 rv o1 => ?_)⟩
  split at o1
  · rename_i z
    cases rv
    rcases kn z with ⟨e1, e2⟩ | ⟨dd, u, v, e1, e2, e3, e4⟩
    · rw [e1] at o1
      exact ⟨z, none, rfl, rfl, e2, o1.keep sr1.hr (.bl _)⟩
    · rw [e1] at o1
      exact ⟨z, some u, rfl, rfl, e2, o1.keep sr1.hr (.bl _)⟩
  · exact o1.elim
theorem q_idxW (xo : XO g X) (hw : X.w = wo) (k : KW g wo x wd) (hg : Gl X x) (ha : PE X a (tI g W fa)) (hs : PlainIx a := by intro _ _; rfl) (hd : (x == ("__debug__" : Str)) = false := by decide +kernel) : PE X (.Subscript (.Name x p) a pos) (tI g W (xIdxW wd fa)) := by
  obtain ⟨d, es, n, hm, kd, kn⟩ := k.ex
  subst hw
  rw [← xo.mg] at hm
  rw [← xo.K] at kd kn
  refine ⟨fun pins s σ H Q I ⟨w, ρ, h, sr, q⟩ => (pe_ix ix_kdict (pe_glob (v := .ref d) hg hm rfl hd) ha hs).run pins s σ H Q I (tI_go sr q fun V H1 w1 x h1 l sr1 rv o1 => ?_)⟩
  split at o1
  · rename_i z
    cases rv
    rcases kn z with ⟨e1, e2⟩ | ⟨dd, u, v, e1, e2, e3, e4⟩
    · rw [e1] at o1
      exact o1.elim
    · rw [e1] at o1
      exact ⟨d, z, v, rfl, rfl, ⟨es, n, u, kd.at_, kd.lit, e2, e3⟩, OKg.keep (a := dd) o1 sr1.hr (e4 _ _)⟩
  · exact o1.elim
/-- text.m(e) -/
theorem q_str1 {f : Str → D → Hh → Res D} {r : V → List V → Hp → VK → Prop} {e0 : Expr} (hp : ∀ {to te : TE}, PE X o to → PE X e te → PE X e0 (tM1 r to te)) (ho : PE X o (tI g W fa)) (he : PE X e (tI g W fb))
    (hr : ∀ E w H h s d V Q, HR g w h H → RV g w H d V → OKg g (RV g) w H E Q (f s d h) → r (.str s) [V] H Q) : PE X e0 (tI g W (xStr1 f fa fb)) :=
  ⟨fun pins s σ H Q I ⟨w, ρ, h, sr, q⟩ => (hp ho he).run pins s σ H Q I (tI_go sr q fun V H1 w1 d h1 l sr1 rv o1 => by
    split at o1
    · cases rv
      exact ⟨⟨_, rfl⟩, tI_go sr1 o1 fun V2 H2 w2 d2 h2 l2 sr2 rv2 o2 => hr (wAt W σ) w2 H2 h2 _ d2 V2 Q sr2.hr rv2 o2⟩
    · exact o1.elim)⟩
theorem join_r {w : Wd} {H : Hp} {h : Hh} {s : Str} {d : D} {y : V} {Q : VK} (hr : HR g w h H) (rv : RV g w H d y) (q : OKg g (RV g) w H E Q (joinD s d h)) :
    ∃ a p, ∃ ys : List Str, V.str s = .str a ∧ [y] = [.ref p] ∧ (SqL X.K H p (ys.map V.str) ∨ SqT X.K H p (ys.map V.str)) ∧ (ys.map (·.length)).sum + ys.length * a.length ≤ 16777216 ∧ Q (.str (Txt.join a ys)) H := by
  unfold joinD at q
  split at q
  · rename_i e1
    split at q
    · rename_i e2
      split at q
      · rename_i hz
        obtain ⟨p, vs, rfl, hq, t⟩ := asS_ok (K := X.K) e1 hr rv
        have e3 := strsOf_eq e2
        subst e3
        have e4 := t.toStrs
        subst e4
        exact ⟨_, _, _, rfl, rfl, hq, of_decide_eq_true hz, q.keep hr (.str _)⟩
      · exact q.elim
    · exact q.elim
  · exact q.elim
theorem split_r {w : Wd} {H : Hp} {h : Hh} {s : Str} {d : D} {y : V} {Q : VK} (hr : HR g w h H) (rv : RV g w H d y) (q : OKg g (RV g) w H E Q (splitD s d h)) :
    ∃ a b, V.str s = .str a ∧ [y] = [.str b] ∧ (b.length == 0) = false ∧ a.length + 2 ≤ sizeLine ∧ rNewStrs (Txt.split a b) H Q := by
  unfold splitD at q
  split at q
  · cases rv
    split at q
    · rename_i hz
      simp only [Bool.and_eq_true, decide_eq_true_eq, Bool.not_eq_true'] at hz
      exact ⟨_, _, rfl, rfl, hz.1, hz.2, q.lst hr (RVs.strs _)⟩
    · exact q.elim
  · exact q.elim
end
end Bx
namespace Bx
open PySem PySem.Spec PyProof.Rows L2
section
variable {g : Gx} {W : WX} {X : Cx} {a b c elt tg iter : Expr} {pos p p2 : Pos} {fa fb fc e : Fn} {es ifs : List Expr} {fs fi : Fl}
theorem XO.blk (xo : XO g X) {s : Shared} {H : Hp} {scope : Scope} {ce : Env} {fp : List Addr} : XO g (X.blk s H scope ce fp) := ⟨⟨xo.K, xo.mg, xo.nd, xo.un, xo.gd⟩, xo.calm⟩
theorem chain_rd {f f' : D → D → Hh → Res D} {σ : L2.St} {H : Hp} {Q : VK} (hq : tI g W (xChain f f' fa fb fc) σ H Q) : tChain (rD g (wAt W σ) f) (rD g (wAt W σ) f') (tI g W fa) (tI g W fb) (tI g W fc) σ H Q := by
  obtain ⟨w, ρ, h, sr, o⟩ := hq
  exact tI_go sr o fun V H1 w1 a h1 l sr1 rv o1 => tI_go sr1 o1 fun V2 H2 w2 b h2 l2 sr2 rv2 o2 => ⟨w2, h2, a, b, sr2.hr, rv.mono l2, rv2,
    (OKg.bind o2).imp fun Z H3 ⟨w3, z, h3, l3, hr3, rz, o3⟩ => by
      obtain ⟨k, rfl, o4⟩ := isB_go o3 rz
      refine ⟨k, rfl, ?_⟩
      cases k with
      | true => exact tI_go (sr2.step l3 hr3) o4 fun V4 H4 w4 u h4 l4 sr4 rv4 o5 => ⟨w4, h4, b, u, sr4.hr, (rv2.mono l3).mono l4, rv4, o5⟩
      | false => exact o4.keep hr3 (.bl false)⟩
theorem w_chain {op op' : CmpOp} {f f' : D → D → Hh → Res D} (ho : ∀ E, OpR X (compareOp op) (rD g E f)) (ho' : ∀ E, OpR X (compareOp op') (rD g E f')) (ha : PE X a (tI g W fa)) (hb : PE X b (tI g W fb)) (hc : PE X c (tI g W fc)) (hm : lastMarks [op, op'] [b, c] = false := by rfl) :
    PE X (.Compare a [op, op'] [b, c] pos) (tI g W (xChain f f' fa fb fc)) := ⟨fun pins s σ H Q I h => (pe_chain (ho (wAt W σ)) (ho' (wAt W σ)) ha hb hc hm).run pins s σ H Q I (chain_rd h)⟩
theorem w_tchain {op op' : CmpOp} {f f' : D → D → Hh → Res D} (ho : ∀ E, OpR X (compareOp op) (rD g E f)) (ho' : ∀ E, OpR X (compareOp op') (rD g E f')) (ha : PE X a (tI g W fa)) (hb : PE X b (tI g W fb)) (hc : PE X c (tI g W fc)) (hm : lastMarks [op, op'] [b, c] = false := by rfl) :
    PT X (.Compare a [op, op'] [b, c] pos) (tT g W (yV (xChain f f' fa fb fc))) :=
  q_tchain (f := f) (f' := f') ha hb hc (fun σ => pt_chain (ho (wAt W σ)) (ho' (wAt W σ)) ha hb hc hm) fun σ H Q hq => chain_rd hq
/-- a type's name as a value -/
theorem w_ty {x : Str} {n : String} (xo : XO g X) (hg : Gl X x) (hm : g.mg x = none) (hv : bootBuiltins x = some (.type n) := by decide +kernel) (hn : x ≠ "__name__" := by decide +kernel) (hd : (x == ("__debug__" : Str)) = false := by decide +kernel) : PE X (.Name x pos) (tI g W (xC (.val (.ty n)))) :=
  q_c (pe_bltn (v := .ty n) hg (by rw [xo.mg]; exact hm) hv rfl hn hd) fun _ _ => .val _
/-- a text of the module -/
theorem w_gstr {x z : Str} (xo : XO g X) (hg : Gl X x) (hm : ∃ t, g.mg x = some (.str z t)) (hd : (x == ("__debug__" : Str)) = false := by decide +kernel) : PE X (.Name x pos) (tI g W (xC (.str z))) := by
  obtain ⟨t, hm⟩ := hm
  exact q_c (pe_glob (v := .str z) hg (by rw [xo.mg]; exact hm) ⟨t, rfl⟩ hd) fun _ _ => .str z
theorem w_bi (xo : XO g X) (bi : Bi) {x : Str} (nb : ∀ b : Bi, g.mg (biN b) = none) (hg : Gl X x) (hx : x = biN bi) (ha : PA X (a :: es) (tL g W fs)) (he : starEach (a :: es) X.env = (false, eval a X.env) :: starEach es X.env := by rfl)
    (hpl : (backTo pos (starEach es X.env)).any (·.1) = false := by rfl) : PE X (.Call (.Name x p) (a :: es) [] pos) (tI g W (xBi bi fs)) := q_bi xo bi hg (by rw [xo.mg, hx]; exact nb bi) hx ha he hpl
theorem w_rng1 (xo : XO g X) (hg : Gl X "range") (hm : g.mg "range" = none) (ha : PA X [a] (tL g W fs)) (hs : starEach [a] X.env = [(false, eval a X.env)] := by rfl) : PI X tg (.Call (.Name "range" p) [a] [] pos) (tIt g W (iR1 fs)) :=
  q_rng1 (fun h => pi_range1 hg (by rw [xo.mg]; exact hm) h hs) ha
theorem w_rng2 (xo : XO g X) (hg : Gl X "range") (hm : g.mg "range" = none) (ha : PA X [a, b] (tL g W fs)) (hs : starEach [a, b] X.env = [(false, eval a X.env), (false, eval b X.env)] := by rfl) (hs2 : starEach [b] X.env = [(false, eval b X.env)] := by rfl) : PI X tg (.Call (.Name "range" p) [a, b] [] pos) (tIt g W (iR2 fs)) :=
  q_rng2 (fun h => pi_range2 hg (by rw [xo.mg]; exact hm) h hs hs2) ha
theorem w_for {is : List Nat} {t : Fg} {zb : Fs} {body : List Stmt} (xo : XO g X) (hp : PassesOwn (model X.prog X.w) X.A X.env X.xe) (hi : PI X tg iter (tIt g W fi)) (hg : PG X tg (tG g is t)) (hb : PSs X body (tS g W zb)) (hs : ∀ x, foldedSetIterable iter X.env x = pure x := by intro _; rfl) : PS X (.For tg iter body [] pos) (tS g W (zFor fi t zb)) :=
  q_for (fun h1 h2 h3 => ps_for hp xo.calm h1 h2 h3 hs) hi hg hb
theorem w_set {i : Nat} {x : Str} (xo : XO g X) (hi : X.N[i]? = some x) (hx : Loc X.env.scope x) (ha : PE X a (tI g W fa)) (hs : swapsWith a (some (.Name x p2)) pos.line X.env = pure false := by rfl) (hf : X.fn x = true ∨ X.env.scope.names.lookup x = some .local := by first | exact .inl rfl | exact .inr rfl) : PS X (.Assign [.Name x p2] a pos) (tS g W (zSet i fa)) :=
  q_set (ps_set xo.nd hi hx ha hs hf) fun _ _ _ h => h
theorem w_expr (ha : PE X a (tI g W fa)) (hs : swapsWith a none pos.line X.env = pure false := by rfl) : PS X (.Expr a pos) (tS g W (zExpr fa)) := q_expr (fun h => ps_expr h hs) ha
def lcF : List D → Hh → Res D := fun es h2 => .ok (.lst es) h2
def lcN : List D → Hh → Res D := fun es h2 => .ok (.ref h2.length) (h2 ++ [.lst es])
theorem w_lc {f : List D → Hh → Res D} (hf : ∀ E, Hands g E f) {is : List Nat} {own : List (Str × Nat)} {t : Fg} {c : Ft} {scope : Scope} (xo : XO g X) (ok : BlkOk X.N X.env.scope scope own) (hi : PI X tg iter (tIt g W fi))
    (hg : ∀ (s : Shared) (H : Hp) (C : Addr) (cl : List (Str × Addr)) (fp : List Addr), PG (X.blk s H scope (compEnvC scope cl C X.env) fp) tg (tG g is t)) (ht : ∀ (s : Shared) (H : Hp) (C : Addr) (cl : List (Str × Addr)) (fp : List Addr), PTs (X.blk s H scope (compEnvC scope cl C X.env) fp) ifs (tT g EF c))
    (he : ∀ (s : Shared) (H : Hp) (C : Addr) (cl : List (Str × Addr)) (fp : List Addr), PE (X.blk s H scope (compEnvC scope cl C X.env) fp) elt (tI g EF e)) (hsub : ∀ i ∈ is, i ∈ own.map (·.2) := by decide) (hs : ∀ x, foldedSetIterable iter X.env x = pure x := by intro _; rfl) :
    PE X (.ListComp elt [⟨tg, iter, ifs, 0⟩] scope pos) (tI g W (xLcG f fi (own.map (·.2)) t c e)) :=
  ⟨fun pins s σ H Q I h => (pe_lc xo.calm xo.nd hi ok hg ht he hs).run pins s σ H Q I (lc_rd hf hsub h)⟩
theorem w_setLc {f : List D → Hh → Res D} (hf : ∀ E, Hands g E f) {i : Nat} {x : Str} {is : List Nat} {own : List (Str × Nat)} {t : Fg} {c : Ft} {scope : Scope} (xo : XO g X) (hy : X.N[i]? = some x) (hyl : X.env.scope.names.lookup x = some .local)
    (hsw : swapsWith (.ListComp elt [⟨tg, iter, ifs, 0⟩] scope p) (some (.Name x p2)) pos.line X.env = pure true) (ok : BlkOk X.N X.env.scope scope own) (hi : PI X tg iter (tIt g W fi))
    (hg : ∀ (s : Shared) (H : Hp) (C : Addr) (cl : List (Str × Addr)) (fp : List Addr), PG (X.blk s H scope (compEnvC scope cl C X.env) fp) tg (tG g is t)) (ht : ∀ (s : Shared) (H : Hp) (C : Addr) (cl : List (Str × Addr)) (fp : List Addr), PTs (X.blk s H scope (compEnvC scope cl C X.env) fp) ifs (tT g EF c))
    (he : ∀ (s : Shared) (H : Hp) (C : Addr) (cl : List (Str × Addr)) (fp : List Addr), PE (X.blk s H scope (compEnvC scope cl C X.env) fp) elt (tI g EF e)) (hsub : ∀ i ∈ is, i ∈ own.map (·.2) := by decide) (hs : ∀ x, foldedSetIterable iter X.env x = pure x := by intro _; rfl) :
    PS X (.Assign [.Name x p2] (.ListComp elt [⟨tg, iter, ifs, 0⟩] scope p) pos) (tS g W (zSet i (xLcG f fi (own.map (·.2)) t c e))) :=
  q_set (ps_setLc xo.calm xo.nd hy hyl hsw hi ok hg ht he hs) fun _ _ _ h => lc_rd hf hsub h
theorem w_setix (hv : PE X c (tI g W fc)) (ho : PE X a (tI g W fa)) (hi : PE X b (tI g W fb)) (ha : ∀ v, assign (.Subscript a b p2) X.env v = (do
      let ov ← holding [v] (eval a X.env)
      let iv ← holding [v, ov] (eval b X.env)
      standAt p2
      holding [v, ov, iv] (setItem ov iv v)
      release [v, ov, iv] []) := by intro _; rfl)
    (hs : swapsWithSole [.Subscript a b p2] c pos.line X.env = pure false := by rfl) (hw : swappedStores [.Subscript a b p2] c X.env = pure none := by rfl) (h1 : (assignEach [.Subscript a b p2] X.env).map (·.2) = [assign (.Subscript a b p2) X.env] := by rfl) :
    PS X (.Assign [.Subscript a b p2] c pos) (tS g W (zSetIx fa fb fc)) := q_setix (ps_asg hv (pg_sub ho hi set_ok ha) hs hw h1)
end
section
variable {g : Gx} {W : WX} {X : Cx} {a b c : Expr} {fa fb fc : Fn} {fs : Fl} {pos p2 : Pos}
theorem w_augix (ho : PE X a (tI g W fa)) (hi : PE X b (tI g W fb)) (hv : PE X c (tI g W fc)) (ha : ∀ ov iv new, augStore b ov iv new = (do holding [new, ov, iv] (setItem ov iv new); release [new, ov, iv] []; pure .next) := by intros; rfl) :
    PS X (.AugAssign (.Subscript a b p2) .Add c pos) (tS g W (zAugIx iaddD fa fb fc)) := q_augix fun E => ps_augS ho hi get_ok hv ipadd_ok set_ok ha
/-- a, b = x, y: two names that are plain locals -/
theorem w_par {i j : Nat} {x y : Str} {px py pt pt2 : Pos} {kt k2 : Nat} (xo : XO g X) (hi : X.N[i]? = some x) (hj : X.N[j]? = some y) (hij : i ≠ j) (hx : X.env.scope.names.lookup x = some .local) (hy : X.env.scope.names.lookup y = some .local) (ha : PA X [a, b] (tL g W fs))
    (hw : swappedStores [.Tuple [.Name x px, .Name y py] kt pt] (.Tuple [a, b] k2 pt2) X.env = pure (some [x, y])) (hs : swapsWithSole [.Tuple [.Name x px, .Name y py] kt pt] (.Tuple [a, b] k2 pt2) pos.line X.env = pure false := by rfl) :
    PS X (.Assign [.Tuple [.Name x px, .Name y py] kt pt] (.Tuple [a, b] k2 pt2) pos) (tS g W (zPar i j fs)) := q_par (ps_par xo.calm xo.nd hi hj hij hx hy ha hw hs)
end
end Bx
namespace Bx
open PySem PySem.Spec PyProof.Rows L2
theorem keyOf_all {P : Params} {z : Str} : ∀ {l : List DictEntry} {ks : List Str}, l.map He.keyOf = He.keysIn P ks → z ∉ ks → l.find? (·.key.isStr z) = none ∧ l.any (·.refKey) = false
  | [], _, _, _ => ⟨rfl, rfl⟩
  | e :: r, [], h, _ => by cases h
  | e :: r, k :: ks, h, hz => by
    have h1 : He.keyOf e :: r.map He.keyOf = some (k, PyData.keyHash P k) :: He.keysIn P ks := h
    injection h1 with h2 h3
    have hz1 : z ≠ k := fun q => hz (by rw [q]; exact List.mem_cons_self ..)
    have hz2 : z ∉ ks := fun q => hz (List.mem_cons_of_mem _ q)
    obtain ⟨i1, i2⟩ := keyOf_all h3 hz2
    unfold He.keyOf at h2
    split at h2
    · rename_i x t q
      have h4 := Option.some.inj h2
      obtain ⟨h5, h6⟩ := Prod.mk.inj h4
      subst h5
      refine ⟨?_, ?_⟩
      · rw [List.find?_cons_of_neg, i1]
        rw [q]
        simp only [Value.isStr, Bool.not_eq_true, beq_eq_false_iff_ne]
        exact fun e => hz1 e.symm
      · rw [List.any_cons, i2, DictEntry.refKey, q]
        rfl
    · cases h2
theorem nsIn_no {K : PySem.W.Frag} {P : Params} {a : Addr} {ks : List Str} {z : Str} (h : He.dicW K a = some (He.keysIn P ks)) (hz : z ∉ ks) : PySem.W.nsIn K a z = some none := by
  unfold He.dicW at h
  unfold PySem.W.nsIn
  split at h
  · rename_i c es n sl q
    rw [q]
    split at h
    · have h1 := Option.some.inj h
      obtain ⟨i1, i2⟩ := keyOf_all h1 hz
      simp only [i1, i2]
      rfl
    · cases h
  · cases h
/-- one row a key -/
def KRow (g : Gx) (d : Addr) (p : Str × D) : Prop := ∃ u v, PySem.W.nsIn g.K d p.1 = some (some u) ∧ RelV v u ∧ ∀ w H, RV g w H p.2 v
theorem krow_int {g : Gx} {d : Addr} {x : Str} {i : Int} {t : Tok} (h : PySem.W.nsIn g.K d x = some (some (.int i t))) : KRow g d (x, .int i) := ⟨_, .int i, h, ⟨t, rfl⟩, fun _ _ => .int i⟩
theorem lookup_in {wd : List (Str × D)} {z : Str} {g : Gx} {d : Addr} : (∀ p ∈ wd, KRow g d p) → (wd.lookup z = none ∧ z ∉ wd.map (·.1)) ∨ ∃ dd u v, wd.lookup z = some dd ∧ PySem.W.nsIn g.K d z = some (some u) ∧ RelV v u ∧ ∀ w H, RV g w H dd v := by
  induction wd with
  | nil => exact fun _ => .inl ⟨rfl, by simp⟩
  | cons p r ih =>
    intro h
    by_cases e : z = p.1
    · obtain ⟨u, v, h1, h2, h3⟩ := h p (List.mem_cons_self ..)
      obtain ⟨x, dd⟩ := p
      cases e
      exact .inr ⟨dd, u, v, List.lookup_cons_self, h1, h2, h3⟩
    · obtain ⟨x, dd⟩ := p
      have e2 : (z == x) = false := by simpa using e
      rcases ih fun p hp => h p (List.mem_cons_of_mem _ hp) with ⟨i1, i2⟩ | ⟨d2, u, v, i1, i2⟩
      · refine .inl ⟨?_, ?_⟩
        · simp only [List.lookup, e2, i1]
        · simp only [List.map_cons, List.mem_cons, not_or]
          exact ⟨e, i2⟩
      · refine .inr ⟨d2, u, v, ?_, i2⟩
        simp only [List.lookup, e2, i1]
theorem kw_of {g : Gx} {wo : World} {x : Str} {d : Addr} {wd : List (Str × D)} (hm : g.mg x = some (.ref d)) (hd : He.dicW g.K d = some (He.keysIn wo.params (wd.map (·.1)))) (hr : ∀ p ∈ wd, KRow g d p) : KW g wo x wd := by
  obtain ⟨es, n, kd⟩ := He.dicW_ok hd
  refine ⟨d, es, n, hm, kd, fun z => ?_⟩
  rcases lookup_in (z := z) hr with ⟨h1, h2⟩ | h
  · exact .inl ⟨h1, nsIn_no hd h2⟩
  · exact .inr h
theorem dicW_at {K : PySem.W.Frag} {P : Params} {d : Addr} {es : Array DictEntry} {n : Nat} {ks : List Str} (h : K.lookup d = some ⟨.type "dict", none, .dict es n, #[]⟩) (he : es.toList.map He.keyOf = He.keysIn P ks) (hl : (d == sysModules) = false) : He.dicW K d = some (He.keysIn P ks) := by
  unfold He.dicW
  rw [h, ← he]
  simp only [hl]
  rfl
end Bx
namespace Bx
open PySem PySem.Spec PyProof.Rows L2
section
variable {α β : Type} {a b c : Fn} {t u : Ft} {fs : Fl} {ρ ρ1 : Rho} {h h1 : Hh} {za zb : Fs} {d : D}
@[simp] theorem bind_ok (x : α) (h : Hh) (f : α → Hh → Res β) : (Res.ok x h).bind f = f x h := id rfl
@[simp] theorem of_ok (x : α) (h : Hh) (f : α → Hh → SRes) : SRes.of ρ (Res.ok x h) f = f x h := id rfl
@[simp] theorem xV_at {i : Nat} : xV i ρ h = (match ρ[i]? with | some (some d) => .ok d h | _ => .bad) := id rfl
@[simp] theorem xC_at : xC d ρ h = .ok d h := id rfl
@[simp] theorem xBin_at {op : D → D → Hh → Res D} : xBin op a b ρ h = (a ρ h).bind fun x h1 => (b ρ h1).bind fun y h2 => op x y h2 := id rfl
@[simp] theorem xUn_at {op : D → Hh → Res D} : xUn op a ρ h = (a ρ h).bind fun x h1 => op x h1 := id rfl
@[simp] theorem xNil_at : xNil ρ h = .ok [] h := id rfl
@[simp] theorem xCons_at : xCons a fs ρ h = (a ρ h).bind fun x h1 => (fs ρ h1).bind fun xs h2 => .ok (x :: xs) h2 := id rfl
@[simp] theorem xTup_at : xTup fs ρ h = (fs ρ h).bind fun ds h1 => if sz ds.length then .ok (.tup ds) h1 else .bad := id rfl
@[simp] theorem xLst_at : xLst fs ρ h = (fs ρ h).bind fun ds h1 => if sz ds.length then .ok (.lst ds) h1 else .bad := id rfl
@[simp] theorem xNlst_at : xNlst fs ρ h = (fs ρ h).bind fun ds h1 => if sz ds.length then .ok (.ref h1.length) (h1 ++ [.lst ds]) else .bad := id rfl
@[simp] theorem xDct0_at : xDct0 ρ h = .ok (.dct []) h := id rfl
@[simp] theorem isB_at {k : Bool} : isB (.bl k) h = .ok k h := id rfl
@[simp] theorem xAnd_at : xAnd a b ρ h = (a ρ h).bind fun x h1 => (isB x h1).bind fun c h2 => if c then b ρ h2 else .ok (.bl false) h2 := id rfl
@[simp] theorem xOr_at : xOr a b ρ h = (a ρ h).bind fun x h1 => (isB x h1).bind fun c h2 => if c then .ok (.bl true) h2 else b ρ h2 := id rfl
@[simp] theorem xNot_at : xNot a ρ h = (a ρ h).bind fun x h1 => (isB x h1).bind fun c h2 => .ok (.bl (!c)) h2 := id rfl
@[simp] theorem xIfe_at : xIfe t a b ρ h = (t ρ h).bind fun c h1 => if c then a ρ h1 else b ρ h1 := id rfl
@[simp] theorem xIdx_at : xIdx a b ρ h = (a ρ h).bind fun x h1 => (b ρ h1).bind fun y h2 => idxD x y h2 := id rfl
@[simp] theorem xNo_at : xNo ρ h = .ok none h := id rfl
@[simp] theorem xSome_at : xSome a ρ h = (a ρ h).bind fun x h1 => isI x h1 := id rfl
@[simp] theorem isI_at {i : Int} : isI (.int i) h = .ok (some i) h := id rfl
@[simp] theorem xSlc_at {lo hi : Fo} : xSlc a lo hi ρ h = (a ρ h).bind fun x h1 => (lo ρ h1).bind fun l h2 => (hi ρ h2).bind fun u h3 => slcD x l u h3 := id rfl
@[simp] theorem xBi_at {bi : Bi} : xBi bi fs ρ h = (fs ρ h).bind fun ds h1 => biS bi ds h1 := id rfl
@[simp] theorem xCall_at {n : Nat} {cl : List D → Hh → Res D} : xCall n cl fs ρ h = (fs ρ h).bind fun ds h1 => if ds.length = n then cl ds h1 else .bad := id rfl
@[simp] theorem yV_at : yV a ρ h = (a ρ h).bind fun x h1 => isB x h1 := id rfl
@[simp] theorem yAnd_at : yAnd t u ρ h = (t ρ h).bind fun c h1 => if c then u ρ h1 else .ok false h1 := id rfl
@[simp] theorem yOr_at : yOr t u ρ h = (t ρ h).bind fun c h1 => if c then .ok true h1 else u ρ h1 := id rfl
@[simp] theorem yNot_at : yNot t ρ h = (t ρ h).bind fun c h1 => .ok (!c) h1 := id rfl
@[simp] theorem yYes_at : yYes ρ h = .ok true h := id rfl
@[simp] theorem zNext_at : zNext ρ h = .nx ρ h := id rfl
@[simp] theorem zSet_at {i : Nat} : zSet i a ρ h = SRes.of ρ (a ρ h) fun d h1 => .nx (ρ.set i (some d)) h1 := id rfl
@[simp] theorem zIf_at : zIf t za zb ρ h = SRes.of ρ (t ρ h) fun c h1 => if c then za ρ h1 else zb ρ h1 := id rfl
@[simp] theorem zRet_at : zRet a ρ h = SRes.of ρ (a ρ h) fun d h1 => .rt d h1 := id rfl
@[simp] theorem zExpr_at : zExpr a ρ h = SRes.of ρ (a ρ h) fun _ h1 => .nx ρ h1 := id rfl
@[simp] theorem zSetIx_at : zSetIx a b c ρ h = SRes.of ρ (c ρ h) fun v h1 => SRes.of ρ (a ρ h1) fun o h2 => SRes.of ρ (b ρ h2) fun i h3 => match setAt o i v h3 with | some h4 => .nx ρ h4 | none => .bad := id rfl
@[simp] theorem zAugIx_at {op : D → D → Hh → Res D} : zAugIx op a b c ρ h = SRes.of ρ (a ρ h) fun o h1 => SRes.of ρ (b ρ h1) fun i h2 => SRes.of ρ (lgetD o i h2) fun x h3 => SRes.of ρ (c ρ h3) fun y h4 => SRes.of ρ (op x y h4) fun z h5 => match setAt o i z h5 with | some h6 => .nx ρ h6 | none => .bad := id rfl
@[simp] theorem zSeq_nx {ρ1 : Rho} {h1 : Hh} : (match (SRes.nx ρ1 h1 : SRes) with | .nx ρ h => zb ρ h | r => r) = zb ρ1 h1 := id rfl
theorem zSeq_at : zSeq za zb ρ h = (match za ρ h with | .nx ρ h => zb ρ h | r => r) := id rfl
@[simp] theorem zFor_at {it : Fl} {tg : Fg} : zFor it tg za ρ h = SRes.of ρ (it ρ h) fun ds h1 => loopS tg za ds ρ h1 := id rfl
@[simp] theorem gN_at {i : Nat} : gN i d ρ = some (ρ.set i (some d)) := id rfl
theorem seq_nx (e : za ρ h = .nx ρ1 h1) : zSeq za zb ρ h = zb ρ1 h1 := by rw [zSeq_at, e]
theorem seq_rt (e : za ρ h = .rt d h1) : zSeq za zb ρ h = .rt d h1 := by rw [zSeq_at, e]
@[simp] theorem endB_rt : endB (.rt d h) = .ok d h := id rfl
@[simp] theorem endB_nx : endB (.nx ρ h) = .ok .non h := id rfl
@[simp] theorem endB_exc {x : Str} {ds : List D} : endB (.exc x ds ρ h) = .exc x ds h := id rfl
@[simp] theorem of_exc (x : Str) (ds : List D) (h : Hh) (f : α → Hh → SRes) : SRes.of ρ (Res.exc x ds h) f = .exc x ds ρ h := id rfl
theorem seq_exc {x : Str} {ds : List D} (e : za ρ h = .exc x ds ρ1 h1) : zSeq za zb ρ h = .exc x ds ρ1 h1 := by rw [zSeq_at, e]
@[simp] theorem eq_int {i j : Int} : eqD (.int i) (.int j) h = .ok (.bl (decide (i = j))) h := by
  simp [eqD, difL, asL, toD, toP, dOk, PyData.plain, PyData.depth, PyData.eqv]
  rfl
@[simp] theorem ne_int {i j : Int} : neD (.int i) (.int j) h = .ok (.bl (!decide (i = j))) h := by
  simp [neD, difL, asL, toD, toP, dOk, PyData.plain, PyData.depth, PyData.eqv]
  rfl
@[simp] theorem eq_str {i j : Str} : eqD (.str i) (.str j) h = .ok (.bl (decide (i = j))) h := by
  simp [eqD, difL, asL, toD, toP, dOk, PyData.plain, PyData.depth, PyData.eqv]
  by_cases e : i = j <;> simp [e]
@[simp] theorem ne_str {i j : Str} : neD (.str i) (.str j) h = .ok (.bl (!decide (i = j))) h := by
  simp [neD, difL, asL, toD, toP, dOk, PyData.plain, PyData.depth, PyData.eqv]
  by_cases e : i = j <;> simp [e]
@[simp] theorem lt_int {i j : Int} : ltD (.int i) (.int j) h = .ok (.bl (decide (i < j))) h := by
  simp [ltD, cmpD, toD, toP, PySem.W.alike, isNone, PyData.depth, PySem.W.dataLt_int]
@[simp] theorem le_int {i j : Int} : leD (.int i) (.int j) h = .ok (.bl (decide (i ≤ j))) h := by
  simp [leD, cmpD, toD, toP, PySem.W.alike, isNone, PyData.depth, PySem.W.dataLt_int]
  by_cases e : j < i
  · have e2 : ¬ i ≤ j := by omega
    simp [e, e2]
  · have e2 : i ≤ j := by omega
    simp [e, e2]
@[simp] theorem gt_int {i j : Int} : gtD (.int i) (.int j) h = .ok (.bl (decide (i > j))) h := by
  simp [gtD, cmpD, toD, toP, PySem.W.alike, isNone, PyData.depth, PySem.W.dataLt_int]
@[simp] theorem ge_int {i j : Int} : geD (.int i) (.int j) h = .ok (.bl (decide (i ≥ j))) h := by
  simp [geD, cmpD, toD, toP, PySem.W.alike, isNone, PyData.depth, PySem.W.dataLt_int]
  by_cases e : i < j
  · have e2 : ¬ j ≤ i := by omega
    simp [e, e2]
  · have e2 : j ≤ i := by omega
    simp [e, e2]
@[simp] theorem add_int {i j : Int} : addD (.int i) (.int j) h = .ok (.int (i + j)) h := id rfl
@[simp] theorem sub_int {i j : Int} : subD (.int i) (.int j) h = .ok (.int (i - j)) h := id rfl
@[simp] theorem iadd_int {i j : Int} : iaddD (.int i) (.int j) h = .ok (.int (i + j)) h := id rfl
theorem mul_int {i j : Int} (e : small64 i = true ∨ small64 j = true) : mulD (.int i) (.int j) h = .ok (.int (i * j)) h := by
  rcases e with e | e <;> simp [mulD, e]
theorem mod_int {i j : Int} (e : 0 < j) : modD (.int i) (.int j) h = .ok (.int (i % j)) h := by simp [modD, e]
theorem fdiv_int {i j : Int} (e : 0 < j) (e2 : j < 1073741824) : fdivD (.int i) (.int j) h = .ok (.int (i / j)) h := by simp [fdivD, e, e2]
@[simp] theorem int_int {i : Int} : biS .int [.int i] h = .ok (.int i) h := id rfl
@[simp] theorem abs_int {i : Int} : biS .abs [.int i] h = .ok (.int (if i < 0 then -i else i)) h := id rfl
end
theorem call_at {T : Tab} {k : Nat} {f : Str} {fd : Fd} {ds : List D} {h : Hh} (e : T f = some fd) (hl : ds.length = fd.np) : callN T (k + 1) f ds h = endC h (endB (fd.body (callN T k) (startR fd.nl ds) h)) := by
  simp only [callN, e, hl, if_true]
theorem call_rt {T : Tab} {k : Nat} {f : Str} {fd : Fd} {ds : List D} {h h' : Hh} {d : D} (e : T f = some fd) (hl : ds.length = fd.np) (b : fd.body (callN T k) (startR fd.nl ds) h = .rt d h') (len : h'.length = h.length) : callN T (k + 1) f ds h = .ok d h' := by
  rw [call_at e hl, b, endB_rt, endC_len len]
end Bx
namespace Bx
open PySem PySem.Spec PyProof.Rows L2
def bTake (cl : Str → List D → Hh → Res D) : Fs :=
  zSeq (zIf (yV (xBin eqD (xIdx (xV 0) (xC (.int 0))) (xC (.int 0)))) (zSeq (zSet 4 (xC (.int 0)))
    (zSeq (zIf (yV (xBin ltD (xIdx (xV 0) (xC (.int 2))) (xBi .len (xCons (xIdx (xV 0) (xC (.int 3))) (xNil))))) (zSet 4 (xIdx (xIdx (xV 0) (xC (.int 3))) (xIdx (xV 0) (xC (.int 2))))) (zNext))
    (zSeq (zAugIx iaddD (xV 0) (xC (.int 2)) (xC (.int 1)))
    (zSeq (zIf (yV (xBin geD (xV 4) (xC (.int 1000000000000000000)))) (zSetIx (xV 0) (xC (.int 0)) (xV 4)) (zNext))
    (zSeq (zSet 5 (xBin addD (xBin addD (xBin mulD (xIdx (xV 0) (xC (.int 1))) (xC (.int 48271))) (xBin modD (xBi .int (xCons (xV 4) (xNil))) (xC (.int 2147483647)))) (xBin mulD (xC (.int 7919)) (xIdx (xV 0) (xC (.int 2))))))
    (zSetIx (xV 0) (xC (.int 1)) (xBin modD (xBi .int (xCons (xV 5) (xNil))) (xC (.int 2147483647))))))))) (zNext))
    (zSeq (zIf (yV (xBin gtD (xIdx (xV 0) (xC (.int 0))) (xC (.int 0)))) (zSeq (zSet 6 (xBin modD (xBi .int (xCons (xIdx (xV 0) (xC (.int 0))) (xNil))) (xV 1)))
    (zSeq (zSetIx (xV 0) (xC (.int 0)) (xBin fdivD (xIdx (xV 0) (xC (.int 0))) (xV 1)))
    (zRet (xV 6)))) (zNext))
    (zSeq (zSet 2 (xBin modD (xBi .int (xCons (xBin mulD (xBin addD (xIdx (xV 0) (xC (.int 1))) (xC (.int 1))) (xC (.int 39373))) (xNil))) (xC (.int 1000000007))))
    (zSeq (zSet 3 (xBin modD (xBi .int (xCons (xBin mulD (xBin modD (xBi .int (xCons (xBin mulD (xV 2) (xV 2)) (xNil))) (xC (.int 998244353))) (xC (.int 30011))) (xNil))) (xC (.int 998244353))))
    (zSeq (zIf (yV (xBin gtD (xV 1) (xC (.int 1000000)))) (zRet (xBin modD (xBi .int (xCons (xBin addD (xBin mulD (xV 3) (xC (.int 1000000007))) (xV 2)) (xNil))) (xV 1))) (zNext))
    (zRet (xBin modD (xBi .int (xCons (xBin fdivD (xV 3) (xC (.int 7))) (xNil))) (xV 1)))))))

/-- the bag -/
structure Bg (o : O) : Prop where
  ex : ∃ (a b c : Int) (cells : List Int), o = .lst [.int a, .int b, .int c, .lst (cells.map .int)] ∧ 0 ≤ a ∧ 0 ≤ b ∧ b < 2147483647 ∧ 0 ≤ c ∧ ∀ x ∈ cells, 0 ≤ x
def bg (a b c : Int) (l : List D) : O := .lst [.int a, .int b, .int c, .lst l]
section
variable {a b c : Int} {l : List D} {r : Hh} {v : D}
@[simp] theorem bg_i0 : idxD (.ref 0) (.int 0) (bg a b c l :: r) = .ok (.int a) (bg a b c l :: r) := rfl
@[simp] theorem bg_i1 : idxD (.ref 0) (.int 1) (bg a b c l :: r) = .ok (.int b) (bg a b c l :: r) := rfl
@[simp] theorem bg_i2 : idxD (.ref 0) (.int 2) (bg a b c l :: r) = .ok (.int c) (bg a b c l :: r) := rfl
@[simp] theorem bg_i3 : idxD (.ref 0) (.int 3) (bg a b c l :: r) = .ok (.lst l) (bg a b c l :: r) := rfl
@[simp] theorem bg_g2 : lgetD (.ref 0) (.int 2) (bg a b c l :: r) = .ok (.int c) (bg a b c l :: r) := rfl
@[simp] theorem bg_s0 {x : Int} : setAt (.ref 0) (.int 0) (.int x) (bg a b c l :: r) = some (bg x b c l :: r) := rfl
@[simp] theorem bg_s1 {x : Int} : setAt (.ref 0) (.int 1) (.int x) (bg a b c l :: r) = some (bg a x c l :: r) := rfl
@[simp] theorem bg_s2 {x : Int} : setAt (.ref 0) (.int 2) (.int x) (bg a b c l :: r) = some (bg a b x l :: r) := rfl
@[simp] theorem len_lst {h : Hh} : biS .len [.lst l] h = .ok (.int l.length) h := rfl
end
theorem atI_some {α : Type} {xs : List α} {i : Int} (h0 : 0 ≤ i) (h1 : i < xs.length) : ∃ x, x ∈ xs ∧ atI xs i = some x := by
  obtain ⟨n, rfl⟩ := Int.eq_ofNat_of_zero_le h0
  have hn : n < xs.length := by omega
  exact ⟨xs[n], List.getElem_mem hn, atI_nat (j := n) (List.getElem?_eq_getElem hn)⟩
/-- the tail of a drawing -/
theorem take_end {a b c m : Int} {l : List D} {r : Hh} {o2 o3 o4 o5 o6 : Option D} (ha : 0 ≤ a) (hb : 0 ≤ b) (hb2 : b < 2147483647) (hm : 0 < m) (hm2 : m < 1073741824) :
    ∃ v a', zSeq (zIf (yV (xBin gtD (xIdx (xV 0) (xC (.int 0))) (xC (.int 0)))) (zSeq (zSet 6 (xBin modD (xBi .int (xCons (xIdx (xV 0) (xC (.int 0))) (xNil))) (xV 1)))
    (zSeq (zSetIx (xV 0) (xC (.int 0)) (xBin fdivD (xIdx (xV 0) (xC (.int 0))) (xV 1)))
    (zRet (xV 6)))) (zNext))
    (zSeq (zSet 2 (xBin modD (xBi .int (xCons (xBin mulD (xBin addD (xIdx (xV 0) (xC (.int 1))) (xC (.int 1))) (xC (.int 39373))) (xNil))) (xC (.int 1000000007))))
    (zSeq (zSet 3 (xBin modD (xBi .int (xCons (xBin mulD (xBin modD (xBi .int (xCons (xBin mulD (xV 2) (xV 2)) (xNil))) (xC (.int 998244353))) (xC (.int 30011))) (xNil))) (xC (.int 998244353))))
    (zSeq (zIf (yV (xBin gtD (xV 1) (xC (.int 1000000)))) (zRet (xBin modD (xBi .int (xCons (xBin addD (xBin mulD (xV 3) (xC (.int 1000000007))) (xV 2)) (xNil))) (xV 1))) (zNext))
    (zRet (xBin modD (xBi .int (xCons (xBin fdivD (xV 3) (xC (.int 7))) (xNil))) (xV 1))))))
    [some (.ref 0), some (.int m), o2, o3, o4, o5, o6] (bg a b c l :: r) = .rt (.int v) (bg a' b c l :: r) ∧ 0 ≤ a' ∧ 0 ≤ v ∧ v < m := by
  by_cases h : a > 0
  · refine ⟨a % m, a / m, ?_, Int.ediv_nonneg ha (by omega), Int.emod_nonneg _ (by omega), Int.emod_lt_of_pos _ hm⟩
    rw [zSeq_at]
    simp [h, zSeq_at, mod_int hm, fdiv_int hm hm2]
  · have h2 : ¬ 0 < a := h
    have k1 : (0 : Int) < 1000000007 := by decide
    have k2 : (0 : Int) < 998244353 := by decide
    have k3 : small64 39373 = true := by decide
    have k4 : small64 30011 = true := by decide
    have k6 : small64 1000000007 = true := by decide
    have q1 := Int.emod_nonneg ((b + 1) * 39373) (show (1000000007 : Int) ≠ 0 by decide)
    have q2 := Int.emod_lt_of_pos ((b + 1) * 39373) k1
    have k5 : small64 ((b + 1) * 39373 % 1000000007) = true := by
      simp only [small64, Bool.and_eq_true, decide_eq_true_eq]
      omega
    by_cases h3 : m > 1000000
    · refine ⟨((b + 1) * 39373 % 1000000007 * ((b + 1) * 39373 % 1000000007) % 998244353 * 30011 % 998244353 * 1000000007 + (b + 1) * 39373 % 1000000007) % m, a, ?_, ha, Int.emod_nonneg _ (by omega), Int.emod_lt_of_pos _ hm⟩
      · rw [zSeq_at]
        simp only [zIf_at, yV_at, xBin_at, xIdx_at, xV_at, xC_at, bind_ok, of_ok, List.getElem?_cons_zero, bg_i0, gt_int, isB_at, decide_eq_false h, Bool.false_eq_true, if_false, zNext_at]
        simp [zSeq_at, h2, mod_int hm, mod_int k1, mod_int k2, mul_int (.inr k3), mul_int (.inr k4), mul_int (.inl k5), mul_int (.inr k6), h3]
    · refine ⟨((b + 1) * 39373 % 1000000007 * ((b + 1) * 39373 % 1000000007) % 998244353 * 30011 % 998244353 / 7) % m, a, ?_, ha, Int.emod_nonneg _ (by omega), Int.emod_lt_of_pos _ hm⟩
      · rw [zSeq_at]
        simp only [zIf_at, yV_at, xBin_at, xIdx_at, xV_at, xC_at, bind_ok, of_ok, List.getElem?_cons_zero, bg_i0, gt_int, isB_at, decide_eq_false h, Bool.false_eq_true, if_false, zNext_at]
        simp [zSeq_at, h2, mod_int hm, mod_int k1, mod_int k2, mul_int (.inr k3), mul_int (.inr k4), mul_int (.inl k5), fdiv_int (show (0:Int) < 7 by decide) (by decide), h3]
theorem take_go {cl : Str → List D → Hh → Res D} {a b c m : Int} {cells : List Int} {r : Hh} (ha : 0 ≤ a) (hb : 0 ≤ b) (hb2 : b < 2147483647) (hc : 0 ≤ c) (hcs : ∀ x ∈ cells, 0 ≤ x) (hm : 0 < m) (hm2 : m < 1073741824) :
    ∃ v a' b' c', bTake cl [some (.ref 0), some (.int m), none, none, none, none, none] (bg a b c (cells.map .int) :: r) = .rt (.int v) (bg a' b' c' (cells.map .int) :: r) ∧ 0 ≤ a' ∧ 0 ≤ b' ∧ b' < 2147483647 ∧ 0 ≤ c' ∧ 0 ≤ v ∧ v < m := by
  by_cases h : a = 0
  · subst h
    have k1 : (0 : Int) < 2147483647 := by decide
    have k2 : small64 48271 = true := by decide
    have k3 : small64 7919 = true := by decide
    have fin : ∀ x : Int, 0 ≤ x → ∃ v a' b' c', bTake cl [some (.ref 0), some (.int m), none, none, none, none, none] (bg 0 b c (cells.map .int) :: r) = .rt (.int v) (bg a' b' c' (cells.map .int) :: r) ∧ 0 ≤ a' ∧ 0 ≤ b' ∧ b' < 2147483647 ∧ 0 ≤ c' ∧ 0 ≤ v ∧ v < m := by
      intro _ _
      by_cases h1 : c < cells.length
      · obtain ⟨y, hy, e⟩ := atI_some (xs := cells) hc h1
        have e2 : idxD (.lst (cells.map .int)) (.int c) (bg 0 b c (cells.map .int) :: r) = .ok (.int y) (bg 0 b c (cells.map .int) :: r) := by
          have e3 : atI (cells.map D.int) c = some (.int y) := by
            obtain ⟨n, rfl⟩ := Int.eq_ofNat_of_zero_le hc
            have hn : n < cells.length := by omega
            rw [atI_nat (List.getElem?_eq_getElem hn)] at e
            refine atI_nat ?_
            rw [List.getElem?_map, List.getElem?_eq_getElem hn, Option.some.inj e]
            rfl
          simp only [idxD, asS, asL, e3]
        have hy0 := hcs y hy
        by_cases h2 : y ≥ 1000000000000000000
        · obtain ⟨v, a', e4, r1, r2, r3⟩ := take_end (a := y) (b := (b * 48271 + y % 2147483647 + 7919 * (c + 1)) % 2147483647) (c := c + 1) (l := cells.map .int) (r := r) (o2 := none) (o3 := none) (o4 := some (.int y)) (o5 := some (.int (b * 48271 + y % 2147483647 + 7919 * (c + 1)))) (o6 := none) hy0 (Int.emod_nonneg _ (by decide)) (Int.emod_lt_of_pos _ k1) hm hm2
          refine ⟨v, a', (b * 48271 + y % 2147483647 + 7919 * (c + 1)) % 2147483647, c + 1, ?_, r1, Int.emod_nonneg _ (by decide), Int.emod_lt_of_pos _ k1, by omega, r2, r3⟩
          refine Eq.trans (seq_nx ?_) e4
          simp [zSeq_at, h1, h2, e2, mod_int k1, mul_int (.inr k2), mul_int (.inl k3)]
        · obtain ⟨v, a', e4, r1, r2, r3⟩ := take_end (a := 0) (b := (b * 48271 + y % 2147483647 + 7919 * (c + 1)) % 2147483647) (c := c + 1) (l := cells.map .int) (r := r) (o2 := none) (o3 := none) (o4 := some (.int y)) (o5 := some (.int (b * 48271 + y % 2147483647 + 7919 * (c + 1)))) (o6 := none) (Int.le_refl 0) (Int.emod_nonneg _ (by decide)) (Int.emod_lt_of_pos _ k1) hm hm2
          refine ⟨v, a', (b * 48271 + y % 2147483647 + 7919 * (c + 1)) % 2147483647, c + 1, ?_, r1, Int.emod_nonneg _ (by decide), Int.emod_lt_of_pos _ k1, by omega, r2, r3⟩
          refine Eq.trans (seq_nx ?_) e4
          simp [zSeq_at, h1, h2, e2, mod_int k1, mul_int (.inr k2), mul_int (.inl k3)]
      · obtain ⟨v, a', e4, r1, r2, r3⟩ := take_end (a := 0) (b := (b * 48271 + 0 % 2147483647 + 7919 * (c + 1)) % 2147483647) (c := c + 1) (l := cells.map .int) (r := r) (o2 := none) (o3 := none) (o4 := some (.int 0)) (o5 := some (.int (b * 48271 + 0 % 2147483647 + 7919 * (c + 1)))) (o6 := none) (Int.le_refl 0) (Int.emod_nonneg _ (by decide)) (Int.emod_lt_of_pos _ k1) hm hm2
        refine ⟨v, a', (b * 48271 + 0 % 2147483647 + 7919 * (c + 1)) % 2147483647, c + 1, ?_, r1, Int.emod_nonneg _ (by decide), Int.emod_lt_of_pos _ k1, by omega, r2, r3⟩
        refine Eq.trans (seq_nx ?_) e4
        simp [zSeq_at, h1, mod_int k1, mul_int (.inr k2), mul_int (.inl k3)]
    exact fin 0 (by omega)
  · obtain ⟨v, a', e, r1, r2, r3⟩ := take_end (a := a) (b := b) (c := c) (l := cells.map .int) (r := r) (o2 := none) (o3 := none) (o4 := none) (o5 := none) (o6 := none) ha hb hb2 hm hm2
    refine ⟨v, a', b, c, ?_, r1, hb, hb2, hc, r2, r3⟩
    refine Eq.trans (seq_nx ?_) e
    simp [h]
/-- a drawing, by its call -/
theorem take_call {T : Tab} (hT : T "_law_take" = some ⟨2, 7, bTake⟩) {k : Nat} {o : O} {r : Hh} {m : Int} (B : Bg o) (hm : 0 < m) (hm2 : m < 1073741824) :
    ∃ v o', callN T (k + 1) "_law_take" [.ref 0, .int m] (o :: r) = .ok (.int v) (o' :: r) ∧ Bg o' ∧ 0 ≤ v ∧ v < m := by
  obtain ⟨a, b, c, cells, rfl, h1, h2, h3, h4, h5⟩ := B.ex
  obtain ⟨v, a', b', c', e, r1, r2, r3, r4, r5, r6⟩ := take_go (cl := callN T k) (r := r) h1 h2 h3 h4 h5 hm hm2
  refine ⟨v, bg a' b' c' (cells.map .int), ?_, ⟨a', b', c', cells, rfl, r1, r2, r3, r4, h5⟩, r5, r6⟩
  exact call_rt hT rfl e rfl
end Bx
namespace Bx
open PySem PySem.Spec PyProof.Rows L2
section
variable {h : Hh} {ds es : List D} {a b c d : D} {x : Str}
theorem atI0 {α : Type} {a : α} {l : List α} : atI (a :: l) 0 = some a := atI_nat (j := 0) rfl
theorem atI1 {α : Type} {a b : α} {l : List α} : atI (a :: b :: l) 1 = some b := atI_nat (j := 1) rfl
theorem atI2 {α : Type} {a b c : α} {l : List α} : atI (a :: b :: c :: l) 2 = some c := atI_nat (j := 2) rfl
@[simp] theorem idx_t0 : idxD (.tup (a :: ds)) (.int 0) h = .ok a h := by simp only [idxD, asS, atI0]
@[simp] theorem idx_t1 : idxD (.tup (a :: b :: ds)) (.int 1) h = .ok b h := by simp only [idxD, asS, atI1]
@[simp] theorem idx_t2 : idxD (.tup (a :: b :: c :: ds)) (.int 2) h = .ok c h := by simp only [idxD, asS, atI2]
@[simp] theorem idx_l0 : idxD (.lst (a :: ds)) (.int 0) h = .ok a h := by simp only [idxD, asS, asL, atI0]
@[simp] theorem idx_l1 : idxD (.lst (a :: b :: ds)) (.int 1) h = .ok b h := by simp only [idxD, asS, asL, atI1]
@[simp] theorem len_tup : biS .len [.tup ds] h = .ok (.int ds.length) h := id rfl
theorem len_str (e : x.length ≤ sizeLine) : biS .len [.str x] h = .ok (.int x.length) h := by
  simp [biS, bLen, sz, e]
@[simp] theorem slc_t1 : slcD (.tup (a :: ds)) (some 1) none h = .ok (.tup ds) h := by
  have e1 : HT.sIx (a :: ds).length 0 (some 1) = 1 := by
    rw [show HT.sIx (a :: ds).length 0 (some 1) = min 1 (a :: ds).length from HT.sIx_nat _ 0 1, List.length_cons]
    omega
  simp only [slcD, e1, HT.sIx_none]
  simp only [List.length_cons, Nat.add_sub_cancel, List.drop_succ_cons, List.drop_zero, List.take_length]
@[simp] theorem list_tup : biS .list [.tup ds] h = .ok (.lst ds) h := id rfl
@[simp] theorem int_bl {k : Bool} : biS .int [.bl k] h = .ok (.int (if k then 1 else 0)) h := id rfl
@[simp] theorem items_lst : itemsD (.lst ds) h = .ok ds h := id rfl
@[simp] theorem items_tup : itemsD (.tup ds) h = .ok ds h := id rfl
@[simp] theorem items_str : itemsD (.str x) h = .ok (x.cps.toList.map fun c => .str ⟨#[c]⟩) h := id rfl
@[simp] theorem iV_at {f : Fn} {ρ : Rho} : iV f ρ h = (f ρ h).bind fun d h1 => itemsD d h1 := id rfl
@[simp] theorem iR1_at {f : Fl} {ρ : Rho} : iR1 f ρ h = (f ρ h).bind fun ds h1 => rng1D ds h1 := id rfl
theorem rng_at {j : Int} (h1 : -(2 ^ 62) ≤ j) (h2 : j < 2 ^ 62) : rng1D [.int j] h = .ok ((List.range j.toNat).map fun (k : Nat) => .int (0 + (k : Int))) h := by
  simp only [rng1D, h1, h2, decide_true, Bool.and_self, if_true]
@[simp] theorem all_at {bs : List Bool} : biS .all [.lst (bs.map .bl)] h = .ok (.bl (bs.all id)) h := by simp [biS, bBls, asL]
@[simp] theorem any_at {bs : List Bool} : biS .any [.lst (bs.map .bl)] h = .ok (.bl (bs.any id)) h := by simp [biS, bBls, asL]
@[simp] theorem eq_nil : eqD (.lst ds) (.lst []) h = .ok (.bl ds.isEmpty) h := by
  cases ds with
  | nil => rfl
  | cons a r => simp [eqD, difL, asL]
@[simp] theorem ne_nil : neD (.lst ds) (.lst []) h = .ok (.bl (!ds.isEmpty)) h := by
  cases ds with
  | nil => rfl
  | cons a r => simp [neD, difL, asL]
end
section
variable {h : Hh} {k : Bool} {i : Int} {x : Str} {ds : List D} {kds : List (Key × D)}
@[simp] theorem isi_non_int : biS .isi [.non, .val (.ty "int")] h = .ok (.bl false) h := by simp only [biS, bIsi, tyN, show kitB "NoneType" "int" = some false by decide +kernel]
@[simp] theorem isi_non_bool : biS .isi [.non, .val (.ty "bool")] h = .ok (.bl false) h := by simp only [biS, bIsi, tyN, show kitB "NoneType" "bool" = some false by decide +kernel]
@[simp] theorem isi_non_str : biS .isi [.non, .val (.ty "str")] h = .ok (.bl false) h := by simp only [biS, bIsi, tyN, show kitB "NoneType" "str" = some false by decide +kernel]
@[simp] theorem isi_non_tuple : biS .isi [.non, .val (.ty "tuple")] h = .ok (.bl false) h := by simp only [biS, bIsi, tyN, show kitB "NoneType" "tuple" = some false by decide +kernel]
@[simp] theorem isi_non_list : biS .isi [.non, .val (.ty "list")] h = .ok (.bl false) h := by simp only [biS, bIsi, tyN, show kitB "NoneType" "list" = some false by decide +kernel]
@[simp] theorem isi_non_dict : biS .isi [.non, .val (.ty "dict")] h = .ok (.bl false) h := by simp only [biS, bIsi, tyN, show kitB "NoneType" "dict" = some false by decide +kernel]
@[simp] theorem isi_bl_int : biS .isi [(.bl k), .val (.ty "int")] h = .ok (.bl true) h := by simp only [biS, bIsi, tyN, show kitB "bool" "int" = some true by decide +kernel]
@[simp] theorem isi_bl_bool : biS .isi [(.bl k), .val (.ty "bool")] h = .ok (.bl true) h := by simp only [biS, bIsi, tyN, show kitB "bool" "bool" = some true by decide +kernel]
@[simp] theorem isi_bl_str : biS .isi [(.bl k), .val (.ty "str")] h = .ok (.bl false) h := by simp only [biS, bIsi, tyN, show kitB "bool" "str" = some false by decide +kernel]
@[simp] theorem isi_bl_tuple : biS .isi [(.bl k), .val (.ty "tuple")] h = .ok (.bl false) h := by simp only [biS, bIsi, tyN, show kitB "bool" "tuple" = some false by decide +kernel]
@[simp] theorem isi_bl_list : biS .isi [(.bl k), .val (.ty "list")] h = .ok (.bl false) h := by simp only [biS, bIsi, tyN, show kitB "bool" "list" = some false by decide +kernel]
@[simp] theorem isi_bl_dict : biS .isi [(.bl k), .val (.ty "dict")] h = .ok (.bl false) h := by simp only [biS, bIsi, tyN, show kitB "bool" "dict" = some false by decide +kernel]
@[simp] theorem isi_int_int : biS .isi [(.int i), .val (.ty "int")] h = .ok (.bl true) h := by simp only [biS, bIsi, tyN, show kitB "int" "int" = some true by decide +kernel]
@[simp] theorem isi_int_bool : biS .isi [(.int i), .val (.ty "bool")] h = .ok (.bl false) h := by simp only [biS, bIsi, tyN, show kitB "int" "bool" = some false by decide +kernel]
@[simp] theorem isi_int_str : biS .isi [(.int i), .val (.ty "str")] h = .ok (.bl false) h := by simp only [biS, bIsi, tyN, show kitB "int" "str" = some false by decide +kernel]
@[simp] theorem isi_int_tuple : biS .isi [(.int i), .val (.ty "tuple")] h = .ok (.bl false) h := by simp only [biS, bIsi, tyN, show kitB "int" "tuple" = some false by decide +kernel]
@[simp] theorem isi_int_list : biS .isi [(.int i), .val (.ty "list")] h = .ok (.bl false) h := by simp only [biS, bIsi, tyN, show kitB "int" "list" = some false by decide +kernel]
@[simp] theorem isi_int_dict : biS .isi [(.int i), .val (.ty "dict")] h = .ok (.bl false) h := by simp only [biS, bIsi, tyN, show kitB "int" "dict" = some false by decide +kernel]
@[simp] theorem isi_str_int : biS .isi [(.str x), .val (.ty "int")] h = .ok (.bl false) h := by simp only [biS, bIsi, tyN, show kitB "str" "int" = some false by decide +kernel]
@[simp] theorem isi_str_bool : biS .isi [(.str x), .val (.ty "bool")] h = .ok (.bl false) h := by simp only [biS, bIsi, tyN, show kitB "str" "bool" = some false by decide +kernel]
@[simp] theorem isi_str_str : biS .isi [(.str x), .val (.ty "str")] h = .ok (.bl true) h := by simp only [biS, bIsi, tyN, show kitB "str" "str" = some true by decide +kernel]
@[simp] theorem isi_str_tuple : biS .isi [(.str x), .val (.ty "tuple")] h = .ok (.bl false) h := by simp only [biS, bIsi, tyN, show kitB "str" "tuple" = some false by decide +kernel]
@[simp] theorem isi_str_list : biS .isi [(.str x), .val (.ty "list")] h = .ok (.bl false) h := by simp only [biS, bIsi, tyN, show kitB "str" "list" = some false by decide +kernel]
@[simp] theorem isi_str_dict : biS .isi [(.str x), .val (.ty "dict")] h = .ok (.bl false) h := by simp only [biS, bIsi, tyN, show kitB "str" "dict" = some false by decide +kernel]
@[simp] theorem isi_tup_int : biS .isi [(.tup ds), .val (.ty "int")] h = .ok (.bl false) h := by simp only [biS, bIsi, tyN, show kitB "tuple" "int" = some false by decide +kernel]
@[simp] theorem isi_tup_bool : biS .isi [(.tup ds), .val (.ty "bool")] h = .ok (.bl false) h := by simp only [biS, bIsi, tyN, show kitB "tuple" "bool" = some false by decide +kernel]
@[simp] theorem isi_tup_str : biS .isi [(.tup ds), .val (.ty "str")] h = .ok (.bl false) h := by simp only [biS, bIsi, tyN, show kitB "tuple" "str" = some false by decide +kernel]
@[simp] theorem isi_tup_tuple : biS .isi [(.tup ds), .val (.ty "tuple")] h = .ok (.bl true) h := by simp only [biS, bIsi, tyN, show kitB "tuple" "tuple" = some true by decide +kernel]
@[simp] theorem isi_tup_list : biS .isi [(.tup ds), .val (.ty "list")] h = .ok (.bl false) h := by simp only [biS, bIsi, tyN, show kitB "tuple" "list" = some false by decide +kernel]
@[simp] theorem isi_tup_dict : biS .isi [(.tup ds), .val (.ty "dict")] h = .ok (.bl false) h := by simp only [biS, bIsi, tyN, show kitB "tuple" "dict" = some false by decide +kernel]
@[simp] theorem isi_lst_int : biS .isi [(.lst ds), .val (.ty "int")] h = .ok (.bl false) h := by simp only [biS, bIsi, tyN, show kitB "list" "int" = some false by decide +kernel]
@[simp] theorem isi_lst_bool : biS .isi [(.lst ds), .val (.ty "bool")] h = .ok (.bl false) h := by simp only [biS, bIsi, tyN, show kitB "list" "bool" = some false by decide +kernel]
@[simp] theorem isi_lst_str : biS .isi [(.lst ds), .val (.ty "str")] h = .ok (.bl false) h := by simp only [biS, bIsi, tyN, show kitB "list" "str" = some false by decide +kernel]
@[simp] theorem isi_lst_tuple : biS .isi [(.lst ds), .val (.ty "tuple")] h = .ok (.bl false) h := by simp only [biS, bIsi, tyN, show kitB "list" "tuple" = some false by decide +kernel]
@[simp] theorem isi_lst_list : biS .isi [(.lst ds), .val (.ty "list")] h = .ok (.bl true) h := by simp only [biS, bIsi, tyN, show kitB "list" "list" = some true by decide +kernel]
@[simp] theorem isi_lst_dict : biS .isi [(.lst ds), .val (.ty "dict")] h = .ok (.bl false) h := by simp only [biS, bIsi, tyN, show kitB "list" "dict" = some false by decide +kernel]
@[simp] theorem isi_dct_int : biS .isi [(.dct kds), .val (.ty "int")] h = .ok (.bl false) h := by simp only [biS, bIsi, tyN, show kitB "dict" "int" = some false by decide +kernel]
@[simp] theorem isi_dct_bool : biS .isi [(.dct kds), .val (.ty "bool")] h = .ok (.bl false) h := by simp only [biS, bIsi, tyN, show kitB "dict" "bool" = some false by decide +kernel]
@[simp] theorem isi_dct_str : biS .isi [(.dct kds), .val (.ty "str")] h = .ok (.bl false) h := by simp only [biS, bIsi, tyN, show kitB "dict" "str" = some false by decide +kernel]
@[simp] theorem isi_dct_tuple : biS .isi [(.dct kds), .val (.ty "tuple")] h = .ok (.bl false) h := by simp only [biS, bIsi, tyN, show kitB "dict" "tuple" = some false by decide +kernel]
@[simp] theorem isi_dct_list : biS .isi [(.dct kds), .val (.ty "list")] h = .ok (.bl false) h := by simp only [biS, bIsi, tyN, show kitB "dict" "list" = some false by decide +kernel]
@[simp] theorem isi_dct_dict : biS .isi [(.dct kds), .val (.ty "dict")] h = .ok (.bl true) h := by simp only [biS, bIsi, tyN, show kitB "dict" "dict" = some true by decide +kernel]
end
section
variable {ρ : Rho} {h : Hh} {ds : List D} {i : Nat} {c : Ft} {e : Fn}
@[simp] theorem lc_at {f : List D → Hh → Res D} {it : Fl} {own : List Nat} {t : Fg} : xLcG f it own t c e ρ h = ((it ρ h).bind fun ds h1 => if sz ds.length then noX (lcL t c e (wipeR ρ own) ds h1) else .bad).bind f := id rfl
@[simp] theorem wipe1 : wipeR ρ [i] = ρ.set i none := id rfl
@[simp] theorem noX_ok {α : Type} {x : α} : noX (.ok x h) = .ok x h := id rfl
@[simp] theorem lcF_at : lcF ds h = .ok (.lst ds) h := id rfl
theorem lc_map {α : Type} {xs : List α} {g : α → D} {f : α → D} (he : ∀ x ∈ xs, e (ρ.set i (some (g x))) h = .ok (f x) h) : lcL (gN i) yYes e ρ (xs.map g) h = .ok (xs.map f) h := by
  induction xs with
  | nil => rfl
  | cons a r ih =>
    simp only [List.map_cons, lcL, gN_at, yYes_at, bind_ok, if_true]
    rw [he a (List.mem_cons_self ..)]
    simp only [bind_ok]
    rw [ih fun x hx => he x (List.mem_cons_of_mem _ hx)]
    rfl
theorem lc_mapD {f : D → D} (he : ∀ x ∈ ds, e (ρ.set i (some x)) h = .ok (f x) h) : lcL (gN i) yYes e ρ ds h = .ok (ds.map f) h := by
  have z := lc_map (g := id) (i := i) (ρ := ρ) (h := h) (e := e) (f := f) (xs := ds) he
  rwa [List.map_id] at z
theorem lc_filter {p : D → Bool} (hc : ∀ x ∈ ds, c (ρ.set i (some x)) h = .ok (p x) h) (he : ∀ x ∈ ds, e (ρ.set i (some x)) h = .ok x h) : lcL (gN i) c e ρ ds h = .ok (ds.filter p) h := by
  induction ds with
  | nil => rfl
  | cons a r ih =>
    simp only [lcL, gN_at]
    rw [hc a (List.mem_cons_self ..)]
    simp only [bind_ok]
    have ih' := ih (fun x hx => hc x (List.mem_cons_of_mem _ hx)) (fun x hx => he x (List.mem_cons_of_mem _ hx))
    by_cases q : p a = true
    · rw [if_pos q, he a (List.mem_cons_self ..)]
      simp only [bind_ok]
      rw [ih']
      simp only [bind_ok, List.filter_cons_of_pos q]
    · rw [if_neg q, ih', List.filter_cons_of_neg q]
theorem lc_inv {I : Hh → Prop} {P : D → Prop} (he : ∀ x ∈ ds, ∀ h, I h → ∃ y h', e (ρ.set i (some x)) h = .ok y h' ∧ I h' ∧ P y) (h0 : I h) : ∃ ys h', lcL (gN i) yYes e ρ ds h = .ok ys h' ∧ I h' ∧ ys.length = ds.length ∧ ∀ y ∈ ys, P y := by
  induction ds generalizing h with
  | nil => exact ⟨[], h, rfl, h0, rfl, fun y hy => by cases hy⟩
  | cons a r ih =>
    obtain ⟨y, h', e1, i1, p1⟩ := he a (List.mem_cons_self ..) h h0
    obtain ⟨ys, h2, e2, i2, l2, p2⟩ := ih (fun x hx => he x (List.mem_cons_of_mem _ hx)) i1
    refine ⟨y :: ys, h2, ?_, i2, by simp [l2], fun z hz => ?_⟩
    · simp only [lcL, gN_at, yYes_at, bind_ok, if_true, e1, e2]
    · rcases List.mem_cons.mp hz with rfl | hz
      · exact p1
      · exact p2 z hz
/-- a loop that never leaves early -/
theorem loop_inv {t : Fg} {b : Fs} {I : Rho → Hh → Prop} (hb : ∀ d ∈ ds, ∀ ρ h, I ρ h → ∃ ρ1 ρ2 h2, t d ρ = some ρ1 ∧ b ρ1 h = .nx ρ2 h2 ∧ I ρ2 h2) (h0 : I ρ h) : ∃ ρ' h', loopS t b ds ρ h = .nx ρ' h' ∧ I ρ' h' := by
  induction ds generalizing ρ h with
  | nil => exact ⟨ρ, h, rfl, h0⟩
  | cons a r ih =>
    obtain ⟨ρ1, ρ2, h2, e1, e2, i2⟩ := hb a (List.mem_cons_self ..) ρ h h0
    obtain ⟨ρ', h', e3, i3⟩ := ih (fun x hx => hb x (List.mem_cons_of_mem _ hx)) i2
    exact ⟨ρ', h', by simp only [loopS, e1, e2, e3], i3⟩
end
/-- a text's signs within another's -/
theorem in_sign {h : Hh} {c : Nat} {z : Str} : inD (.str ⟨#[c]⟩) (.str z) h = .ok (.bl (decide (c ∈ z.cps.toList))) h := rfl
theorem nin_sign {h : Hh} {c : Nat} {z : Str} : ninD (.str ⟨#[c]⟩) (.str z) h = .ok (.bl (!decide (c ∈ z.cps.toList))) h := rfl
end Bx
namespace Bx
open PySem PySem.Spec PyProof.Rows L2
def bBag (cl : Str → List D → Hh → Res D) : Fs :=
  zRet (xNlst (xCons (xC (.int 0)) (xCons (xC (.int 1234567891)) (xCons (xC (.int 0)) (xCons (xLcG lcF (iV (xSlc (xV 0) (xNo) (xSome (xC (.int 63))))) [1] (gN 1) (yYes) (xBi .abs (xCons (xV 1) (xNil)))) (xNil))))))
def bOne (cl : Str → List D → Hh → Res D) : Fs :=
  zRet (xIdx (xV 1) (xCall 2 (cl "_law_take") (xCons (xV 0) (xCons (xBi .len (xCons (xV 1) (xNil))) (xNil)))))
def bNames (cl : Str → List D → Hh → Res D) : Fs :=
  zSeq (zSet 2 (xStr1 splitD (xC (.str "list pair fun same then a ab abc row both as names zzzzzzzz book word z")) (xC (.str " "))))
    (zSeq (zAsg (gT2 5 6) (xTup (xCons (xCall 2 (cl "_law_take") (xCons (xV 0) (xCons (xC (.int 4)) (xNil)))) (xCons (xCall 2 (cl "_law_take") (xCons (xV 0) (xCons (xC (.int 16)) (xNil)))) (xNil)))))
    (zSeq (zIf (yV (xBin eqD (xV 5) (xC (.int 0)))) (zRet (xBi .sorted (xCons (xSlc (xBin addD (xSlc (xV 2) (xSome (xV 6)) (xNo)) (xSlc (xV 2) (xNo) (xSome (xV 6)))) (xNo) (xSome (xV 1))) (xNil)))) (zNext))
    (zSeq (zIf (yV (xBin eqD (xV 5) (xC (.int 1)))) (zRet (xBi .sorted (xCons (xLcG lcF (iR1 (xCons (xV 1) (xNil))) [7] (gN 7) (yYes) (xSlc (xC (.str "aaaaaaaa")) (xNo) (xSome (xBin addD (xV 7) (xC (.int 1)))))) (xNil)))) (zNext))
    (zSeq (zSet 3 (xC (.str "abcdefghijklmnopqrstuvwxyz")))
    (zSeq (zSet 4 (xStr1 joinD (xC (.str "")) (xLcG lcF (iR1 (xCons (xBin subD (xV 5) (xC (.int 1))) (xNil))) [7] (gN 7) (yYes) (xIdx (xV 3) (xCall 2 (cl "_law_take") (xCons (xV 0) (xCons (xC (.int 26)) (xNil))))))))
    (zRet (xBi .sorted (xCons (xLcG lcF (iR1 (xCons (xV 1) (xNil))) [7] (gN 7) (yYes) (xBin addD (xV 4) (xIdx (xV 3) (xBin modD (xBi .int (xCons (xBin addD (xV 6) (xBin mulD (xC (.int 3)) (xV 7))) (xNil))) (xC (.int 26)))))) (xNil)))))))))

/-- small texts -/
structure SS (n : Nat) (x : Str) : Prop where
  le : x.length ≤ n
  sm : ∀ c ∈ x.cps.toList, 97 ≤ c ∧ c ≤ 122
theorem SS.mono {n m : Nat} {x : Str} (s : SS n x) (h : n ≤ m) : SS m x := ⟨Nat.le_trans s.le h, s.sm⟩
def ssB (n : Nat) (x : Str) : Bool := decide (x.length ≤ n) && x.cps.toList.all fun c => decide (97 ≤ c ∧ c ≤ 122)
theorem ss_of {n : Nat} {x : Str} (h : ssB n x = true) : SS n x := by
  simp only [ssB, Bool.and_eq_true, decide_eq_true_eq, List.all_eq_true] at h
  exact ⟨h.1, h.2⟩
theorem sz_of {n : Nat} (e : n ≤ 1000) : sz n = true := by
  simp only [sz, decide_eq_true_eq]
  exact Nat.le_trans e (by decide)
theorem str_len {x : Str} : x.length = x.cps.toList.length := by
  rw [Array.length_toList]
  rfl
theorem ss_cut {n : Nat} {x : Str} {lo hi : Option Int} (s : SS n x) : SS n (cutS x lo hi) := by
  refine ⟨?_, fun c hc => ?_⟩
  · rw [str_len]
    simp only [cutS, List.length_take, List.length_drop]
    have := s.le
    rw [str_len] at this
    omega
  · simp only [cutS] at hc
    exact s.sm c (List.mem_of_mem_drop (List.mem_of_mem_take hc))
theorem app_list (x y : Str) : (x ++ y).cps.toList = x.cps.toList ++ y.cps.toList := by
  show (x.cps ++ y.cps).toList = _
  rw [Array.toList_append]
theorem ss_app {n m : Nat} {x y : Str} (s : SS n x) (t : SS m y) : SS (n + m) (x ++ y) := by
  refine ⟨?_, fun c hc => ?_⟩
  · rw [str_len, app_list, List.length_append]
    have := s.le
    have := t.le
    rw [str_len] at *
    omega
  · rw [app_list] at hc
    rcases List.mem_append.mp hc with h | h
    · exact s.sm c h
    · exact t.sm c h
section
variable {T : Tab} {j : Nat} {o : O} {r : Hh}
theorem bag_call (hT : T "_law_bag" = some ⟨1, 2, bBag⟩) {ns : List Int} (hl : ns.length ≤ 1000) : ∃ o, callN T (j + 1) "_law_bag" [.scr ns] [] = .ok (.ref 0) [o] ∧ Bg o := by
  generalize hx : (ns.drop (HT.sIx ns.length 0 none)).take (HT.sIx ns.length ns.length (some 63) - HT.sIx ns.length 0 none) = xs
  have hz : sz xs.length = true := sz_of (by
    rw [← hx, List.length_take, List.length_drop]
    omega)
  have hs : slcD (.scr ns) none (some 63) [] = .ok (.lst (xs.map .int)) [] := by
    simp only [slcD, hx]
  have hc : lcL (gN 1) yYes (xBi .abs (xCons (xV 1) (xNil))) [some (D.scr ns), none] (xs.map .int) [] = .ok (xs.map fun i => D.int (if i < 0 then -i else i)) [] := lc_map fun i _ => by simp
  refine ⟨bg 0 1234567891 0 ((xs.map fun i => if i < 0 then -i else i).map .int), ?_, ⟨0, 1234567891, 0, xs.map fun i => if i < 0 then -i else i, rfl, by decide, by decide, by decide, by decide, fun x hx => ?_⟩⟩
  · rw [call_at hT rfl]
    simp [bBag, startR, hs, hz, hc]
    have h4 : sz 4 = true := by decide
    simp only [h4, if_true, bg]
    have hb : Bels 0 [D.int 0, .int 1234567891, .int 0, .lst (xs.map fun i => D.int (if i < 0 then -i else i))] := .cons (.int _) (.cons (.int _) (.cons (.int _) (.cons (.lst (.of fun d hd => by
      obtain ⟨i, _, rfl⟩ := List.mem_map.mp hd
      exact .int _)) .nil)))
    exact endC_new (h := []) (x := [.lst _]) (k := 0) (o := .lst _) rfl (Nat.le_refl _) hb
  · obtain ⟨i, _, rfl⟩ := List.mem_map.mp hx
    split <;> omega
theorem atI_mem {α : Type} {xs : List α} {i : Int} (h0 : 0 ≤ i) (h1 : i < xs.length) : ∃ x, x ∈ xs ∧ atI xs i = some x := by
  obtain ⟨n, rfl⟩ := Int.eq_ofNat_of_zero_le h0
  have hn : n < xs.length := by omega
  exact ⟨xs[n], List.getElem_mem hn, atI_nat (List.getElem?_eq_getElem hn)⟩
theorem idx_lst {h : Hh} {xs : List D} {i : Int} (h0 : 0 ≤ i) (h1 : i < xs.length) : ∃ x, x ∈ xs ∧ idxD (.lst xs) (.int i) h = .ok x h := by
  obtain ⟨x, hx, e⟩ := atI_mem h0 h1
  exact ⟨x, hx, by simp only [idxD, asS, asL, e]⟩
theorem idx_tup {h : Hh} {xs : List D} {i : Int} (h0 : 0 ≤ i) (h1 : i < xs.length) : ∃ x, x ∈ xs ∧ idxD (.tup xs) (.int i) h = .ok x h := by
  obtain ⟨x, hx, e⟩ := atI_mem h0 h1
  exact ⟨x, hx, by simp only [idxD, asS, e]⟩
theorem idx_str {h : Hh} {z : Str} {i : Int} (hz : z.length ≤ 1000) (h0 : 0 ≤ i) (h1 : i < z.length) : ∃ c, c ∈ z.cps.toList ∧ idxD (.str z) (.int i) h = .ok (.str ⟨#[c]⟩) h := by
  rw [str_len] at h1
  obtain ⟨x, hx, e⟩ := atI_mem h0 h1
  exact ⟨x, hx, by simp only [idxD, e, sz_of hz, if_true]⟩
theorem one_lst (hT : T "_law_take" = some ⟨2, 7, bTake⟩) (h1 : T "_law_one" = some ⟨2, 2, bOne⟩) (B : Bg o) {xs : List D} (hx : 0 < xs.length) (hx2 : xs.length ≤ 1000) :
    ∃ x o', callN T (j + 2) "_law_one" [.ref 0, .lst xs] (o :: r) = .ok x (o' :: r) ∧ x ∈ xs ∧ Bg o' := by
  obtain ⟨v, o', e, B', v0, v1⟩ := take_call hT (k := j) (r := r) B (m := xs.length) (by omega) (by omega)
  obtain ⟨x, hm, e2⟩ := idx_lst (h := o' :: r) v0 v1
  refine ⟨x, o', ?_, hm, B'⟩
  rw [call_at h1 rfl]
  simp [bOne, startR, e, e2]
theorem one_str (hT : T "_law_take" = some ⟨2, 7, bTake⟩) (h1 : T "_law_one" = some ⟨2, 2, bOne⟩) (B : Bg o) {z : Str} (hx : 0 < z.length) (hx2 : z.length ≤ 1000) :
    ∃ c o', callN T (j + 2) "_law_one" [.ref 0, .str z] (o :: r) = .ok (.str ⟨#[c]⟩) (o' :: r) ∧ c ∈ z.cps.toList ∧ Bg o' := by
  obtain ⟨v, o', e, B', v0, v1⟩ := take_call hT (k := j) (r := r) B (m := z.length) (by omega) (by omega)
  obtain ⟨x, hm, e2⟩ := idx_str (h := o' :: r) hx2 v0 v1
  refine ⟨x, o', ?_, hm, B'⟩
  rw [call_at h1 rfl]
  have hz : z.length ≤ sizeLine := Nat.le_trans hx2 (by decide)
  simp [bOne, startR, len_str hz, e, e2]
end
theorem slc_lo {h : Hh} {ds : List D} {t : Nat} : slcD (.lst ds) (some (t : Int)) none h = .ok (.lst (ds.drop t)) h := by
  simp only [slcD, asL, HT.sIx_nat, HT.sIx_none]
  congr 2
  rw [List.take_of_length_le (by rw [List.length_drop]; exact Nat.le_refl _)]
  by_cases e : t ≤ ds.length
  · rw [Nat.min_eq_left e]
  · rw [Nat.min_eq_right (by omega), List.drop_length, List.drop_eq_nil_of_le (by omega)]
theorem slc_hi {h : Hh} {ds : List D} {t : Nat} : slcD (.lst ds) none (some (t : Int)) h = .ok (.lst (ds.take t)) h := by
  simp only [slcD, asL, HT.sIx_nat, HT.sIx_none, List.drop_zero, Nat.sub_zero]
  congr 2
  by_cases e : t ≤ ds.length
  · rw [Nat.min_eq_left e]
  · rw [Nat.min_eq_right (by omega), List.take_length, List.take_of_length_le (by omega)]
theorem slct_lo {h : Hh} {ds : List D} {t : Nat} : slcD (.tup ds) (some (t : Int)) none h = .ok (.tup (ds.drop t)) h := by
  simp only [slcD, HT.sIx_nat, HT.sIx_none]
  congr 2
  rw [List.take_of_length_le (by rw [List.length_drop]; exact Nat.le_refl _)]
  by_cases e : t ≤ ds.length
  · rw [Nat.min_eq_left e]
  · rw [Nat.min_eq_right (by omega), List.drop_length, List.drop_eq_nil_of_le (by omega)]
theorem slct_hi {h : Hh} {ds : List D} {t : Nat} : slcD (.tup ds) none (some (t : Int)) h = .ok (.tup (ds.take t)) h := by
  simp only [slcD, HT.sIx_nat, HT.sIx_none, List.drop_zero, Nat.sub_zero]
  congr 2
  by_cases e : t ≤ ds.length
  · rw [Nat.min_eq_left e]
  · rw [Nat.min_eq_right (by omega), List.take_length, List.take_of_length_le (by omega)]
theorem slc_str {h : Hh} {z : Str} {lo hi : Option Int} (hz : z.length ≤ 1000) : slcD (.str z) lo hi h = .ok (.str (cutS z lo hi)) h := by simp [slcD, sz_of hz]
theorem toDs_strs {h : Hh} : ∀ ys : List Str, toDs h (ys.map .str) = some (ys.map .str)
  | [] => rfl
  | y :: ys => by
    have := toDs_strs (h := h) ys
    simp only [toDs] at this
    simp only [toDs, List.map_cons, toPs, toP, this]
theorem sorted_strs {h : Hh} (ys : List Str) : ∃ zs : List Str, biS .sorted [.lst (ys.map .str)] h = .ok (.lst (zs.map .str)) h ∧ zs.Perm ys := by
  have h1 : alikes (ys.map PyData.str) = true := by simp [alikes, PySem.W.alike]
  have h2 : sortable (ys.map PyData.str) = true := by simp [sortable]
  have h3 : ((ys.map PyData.str).all fun p => decide (p.depth ≤ 150)) = true := by simp [PyData.depth]
  have ez : (ys.map D.str).zip (ys.map PyData.str) = ys.map fun y => (D.str y, PyData.str y) := by
    induction ys with
    | nil => rfl
    | cons y ys ih =>
      simp only [List.map_cons, List.zip_cons_cons, List.cons.injEq, true_and]
      exact ih (by simp [alikes, PySem.W.alike]) (by simp [sortable]) (by simp [PyData.depth])
  have pm : (sortD (ys.map fun y => (D.str y, PyData.str y))).Perm (ys.map fun y => (D.str y, PyData.str y)) := List.mergeSort_perm _ _
  have pm2 := pm.map (·.1)
  rw [List.map_map] at pm2
  have es : sortedL h (ys.map .str) = some ((sortD (ys.map fun y => (D.str y, PyData.str y))).map (·.1)) := by
    simp only [sortedL, toDs_strs, h1, h2, h3, Bool.and_self, if_true, ez]
  obtain ⟨zs, ez1⟩ : ∃ zs : List Str, (sortD (ys.map fun y => (D.str y, PyData.str y))).map (·.1) = zs.map .str := by
    have : ∀ d ∈ (sortD (ys.map fun y => (D.str y, PyData.str y))).map (·.1), ∃ y, d = D.str y := fun d hd => by
      have := pm2.mem_iff.mp hd
      obtain ⟨y, _, rfl⟩ := List.mem_map.mp this
      exact ⟨y, rfl⟩
    generalize (sortD (ys.map fun y => (D.str y, PyData.str y))).map (·.1) = l at this
    induction l with
    | nil => exact ⟨[], rfl⟩
    | cons d l ih =>
      obtain ⟨y, rfl⟩ := this d (List.mem_cons_self ..)
      obtain ⟨zs, e⟩ := ih fun d hd => this d (List.mem_cons_of_mem _ hd)
      exact ⟨y :: zs, by simp [e]⟩
  refine ⟨zs, ?_, ?_⟩
  · simp only [biS, bSrt, asL, es, ez1]
  · rw [ez1] at pm2
    have := pm2.filterMap fun d => match d with | D.str y => some y | _ => none
    simpa [List.filterMap_map, Function.comp_def] using this
abbrev menuS : Str := "list pair fun same then a ab abc row both as names zzzzzzzz book word z"
def menu : List Str := ["list", "pair", "fun", "same", "then", "a", "ab", "abc", "row", "both", "as", "names", "zzzzzzzz", "book", "word", "z"]
theorem split_menu : Txt.split menuS " " = menu := by decide +kernel
abbrev abc : Str := "abcdefghijklmnopqrstuvwxyz"
@[simp] theorem xStr1_at {f : Str → D → Hh → Res D} {a b : Fn} {ρ : Rho} {h : Hh} : xStr1 f a b ρ h = (a ρ h).bind fun x h1 => match x with | .str s => (b ρ h1).bind fun y h2 => f s y h2 | _ => .bad := id rfl
theorem menu_split {h : Hh} : splitD menuS (.str " ") h = .ok (.lst (menu.map .str)) h := by
  simp only [splitD, split_menu]
  rfl
@[simp] theorem zAsg_at {t : Fg} {a : Fn} {ρ : Rho} {h : Hh} : zAsg t a ρ h = SRes.of ρ (a ρ h) fun d h1 => match t d ρ with | some ρ1 => .nx ρ1 h1 | none => .bad := id rfl
@[simp] theorem gT2_at {i j : Nat} {a b : D} {ρ : Rho} : gT2 i j (.tup [a, b]) ρ = some ((ρ.set i (some a)).set j (some b)) := id rfl
theorem join_strs {h : Hh} {s : Str} {ys : List Str} (hy : (ys.map (·.length)).sum + ys.length * s.length ≤ 1000) : joinD s (.lst (ys.map .str)) h = .ok (.str (Txt.join s ys)) h := by
  have : (ys.map (·.length)).sum + ys.length * s.length ≤ 16777216 := Nat.le_trans hy (by decide)
  simp [joinD, asS, asL, this]
theorem lc_rng {fs : Fl} {c : Ft} {e : Fn} {ρ : Rho} {h h1 h2 : Hh} {ys : List D} {i m : Nat} (hf : fs ρ h = .ok [.int (m : Int)] h1) (hm : m ≤ 1000) (hl : lcL (gN i) c e (ρ.set i none) ((List.range m).map fun (k : Nat) => .int (k : Int)) h1 = .ok ys h2) : xLcG lcF (iR1 fs) [i] (gN i) c e ρ h = .ok (.lst ys) h2 := by
  have rg : rng1D [.int (m : Int)] h1 = .ok ((List.range m).map fun (k : Nat) => .int (k : Int)) h1 := by
    have z := rng_at (h := h1) (j := (m : Int)) (by omega) (by omega)
    simpa using z
  have hz : sz ((List.range m).map fun (k : Nat) => D.int (k : Int)).length = true := sz_of (by rw [List.length_map, List.length_range]; exact hm)
  rw [lc_at, iR1_at, hf, bind_ok, rg, bind_ok, if_pos hz, wipe1, hl, noX_ok, bind_ok, lcF_at]
theorem names_call {T : Tab} (hT : T "_law_take" = some ⟨2, 7, bTake⟩) (hN : T "_law_names" = some ⟨2, 8, bNames⟩) {j : Nat} {o : O} {r : Hh} (B : Bg o) {m : Nat} (hm : m ≤ 8) :
    ∃ (xs : List Str) (o' : O), callN T (j + 2) "_law_names" [.ref 0, .int m] (o :: r) = .ok (.lst (xs.map .str)) (o' :: r) ∧ xs.length = m ∧ (∀ x ∈ xs, SS 8 x ∧ 0 < x.length) ∧ Bg o' := by
  obtain ⟨v, o1, e1, B1, v0, v1⟩ := take_call hT (k := j) (r := r) B (m := 4) (by decide) (by decide)
  obtain ⟨t, o2, e2, B2, t0, t1⟩ := take_call hT (k := j) (r := r) B1 (m := 16) (by decide) (by decide)
  rw [call_at hN rfl]
  have h2 : sz 2 = true := by decide
  have hml : ∀ y ∈ menu, SS 8 y ∧ 0 < y.length := fun y hy => by
    have : (menu.all fun y => ssB 8 y && decide (0 < y.length)) = true := by decide +kernel
    have := List.all_eq_true.mp this y hy
    simp only [Bool.and_eq_true, decide_eq_true_eq] at this
    exact ⟨ss_of this.1, this.2⟩
  obtain ⟨tn, rfl⟩ := Int.eq_ofNat_of_zero_le t0
  have head : ∀ zb : Fs, zSeq (zSet 2 (xStr1 splitD (xC (.str "list pair fun same then a ab abc row both as names zzzzzzzz book word z")) (xC (.str " "))))
      (zSeq (zAsg (gT2 5 6) (xTup (xCons (xCall 2 (callN T (j + 1) "_law_take") (xCons (xV 0) (xCons (xC (.int 4)) (xNil)))) (xCons (xCall 2 (callN T (j + 1) "_law_take") (xCons (xV 0) (xCons (xC (.int 16)) (xNil)))) (xNil))))) zb)
      (startR 8 [.ref 0, .int m]) (o :: r) = zb [some (.ref 0), some (.int m), some (.lst (menu.map .str)), none, none, some (.int v), some (.int tn), none] (o2 :: r) := fun zb => by
    rw [seq_nx (ρ1 := [some (.ref 0), some (.int m), some (.lst (menu.map .str)), none, none, none, none, none]) (h1 := o :: r) (by simp [menu_split, startR]), seq_nx]
    simp [e1, e2, h2]
  by_cases c0 : v = 0
  · subst c0
    have hm16 : menu.length = 16 := rfl
    have hadd : addD (.lst ((menu.map D.str).drop tn)) (.lst ((menu.map D.str).take tn)) (o2 :: r) = .ok (.lst ((menu.drop tn ++ menu.take tn).map .str)) (o2 :: r) := by
      have : sz (((menu.map D.str).drop tn).length + ((menu.map D.str).take tn).length) = true := sz_of (by
        simp only [List.length_drop, List.length_take, List.length_map, hm16]
        omega)
      simp only [addD, asL, this, if_true, List.map_append, List.map_drop, List.map_take]
    obtain ⟨zs, ez, pz⟩ := sorted_strs (h := o2 :: r) ((menu.drop tn ++ menu.take tn).take m)
    refine ⟨zs, o2, ?_, ?_, fun x hx => ?_, B2⟩
    · simp [bNames, startR, zSeq_at, menu_split, e1, e2, h2, slc_lo, slc_hi]
      rw [hadd]
      simp only [bind_ok, slc_hi, ← List.map_take, ez, of_ok, endB_rt, endC_cons]
    · rw [pz.length_eq]
      simp only [List.length_take, List.length_append, List.length_drop, hm16]
      omega
    · have := List.mem_of_mem_take (pz.mem_iff.mp hx)
      rcases List.mem_append.mp this with h | h
      · exact hml x (List.mem_of_mem_drop h)
      · exact hml x (List.mem_of_mem_take h)
  by_cases c1 : v = 1
  · subst c1
    have hc : lcL (gN 7) yYes (xSlc (xC (.str "aaaaaaaa")) (xNo) (xSome (xBin addD (xV 7) (xC (.int 1))))) [some (.ref 0), some (.int m), some (.lst (menu.map .str)), none, none, some (.int 1), some (.int tn), none] ((List.range m).map fun (k : Nat) => .int (0 + (k : Int))) (o2 :: r) = .ok ((List.range m).map fun (k : Nat) => D.str (cutS "aaaaaaaa" none (some (0 + (k : Int) + 1)))) (o2 :: r) := lc_map fun k _ => by
      simp [slc_str (show ("aaaaaaaa" : Str).length ≤ 1000 by decide)]
    obtain ⟨zs, ez, pz⟩ := sorted_strs (h := o2 :: r) ((List.range m).map fun (k : Nat) => cutS "aaaaaaaa" none (some (0 + (k : Int) + 1)))
    refine ⟨zs, o2, ?_, ?_, fun x hx => ?_, B2⟩
    · rw [List.map_map] at ez
      simp only [Function.comp_def] at ez
      simp only [Int.zero_add] at hc ez
      simp only [bNames, head]
      rw [seq_nx (ρ1 := [some (.ref 0), some (.int m), some (.lst (menu.map .str)), none, none, some (.int 1), some (.int tn), none]) (h1 := o2 :: r) (by simp [-lc_at]), seq_rt (d := .lst (zs.map .str)) (h1 := o2 :: r)]
      · exact endC_cons
      simp only [zIf_at, yV_at, xBin_at, xV_at, xC_at, List.getElem?_cons_succ, List.getElem?_cons_zero, bind_ok, eq_int, decide_true, isB_at, of_ok, if_true, zRet_at, xBi_at, xCons_at, xNil_at]
      rw [lc_rng (by simp) (by omega) hc]
      simp only [bind_ok, ez, of_ok]
    · rw [pz.length_eq, List.length_map, List.length_range]
    · obtain ⟨k, _, rfl⟩ := List.mem_map.mp (pz.mem_iff.mp hx)
      refine ⟨ss_cut (ss_of (by decide +kernel)), ?_⟩
      have : ∀ k : Fin 8, 0 < (cutS ("aaaaaaaa" : Str) none (some (0 + ((k : Nat) : Int) + 1))).length := by decide +kernel
      exact this ⟨k, by have := List.mem_range.mp ‹_›; omega⟩
  · have c1' : ¬ v = 0 := c0
    have habc : abc.length = 26 := by decide +kernel
    have sabc : SS 26 abc := ss_of (by decide +kernel)
    obtain ⟨ys, h', ec, ⟨o3, eh, B3⟩, ly, py⟩ := lc_inv (i := 7) (e := xIdx (xV 3) (xCall 2 (callN T (j + 1) "_law_take") (xCons (xV 0) (xCons (xC (.int 26)) (xNil))))) (ρ := [some (.ref 0), some (.int m), some (.lst (menu.map .str)), some (.str "abcdefghijklmnopqrstuvwxyz"), none, some (.int v), some (.int tn), none]) (ds := (List.range (v.toNat - 1)).map fun (k : Nat) => .int (0 + (k : Int))) (h := o2 :: r)
      (I := fun h => ∃ o, h = o :: r ∧ Bg o) (P := fun d => ∃ c, d = D.str ⟨#[c]⟩ ∧ (97 ≤ c ∧ c ≤ 122)) (fun d _ h ⟨o, eo, Bo⟩ => by
        subst eo
        obtain ⟨u, o4, e4, B4, u0, u1⟩ := take_call hT (k := j) (r := r) Bo (m := 26) (by decide) (by decide)
        obtain ⟨c, hc, e5⟩ := idx_str (h := o4 :: r) (z := abc) (i := u) (by rw [habc]; decide) u0 (by rw [habc]; exact u1)
        exact ⟨.str ⟨#[c]⟩, o4 :: r, by simp [e4, e5], ⟨o4, rfl, B4⟩, c, rfl, sabc.sm c hc⟩) ⟨o2, rfl, B2⟩
    subst eh
    obtain ⟨xs, ex⟩ : ∃ xs : List Str, ys = xs.map .str := by
      have : ∀ d ∈ ys, ∃ y, d = D.str y := fun d hd => let ⟨c, e, _⟩ := py d hd; ⟨_, e⟩
      clear ec ly py
      induction ys with
      | nil => exact ⟨[], rfl⟩
      | cons d l ih =>
        obtain ⟨y, rfl⟩ := this d (List.mem_cons_self ..)
        obtain ⟨zs, e⟩ := ih fun d hd => this d (List.mem_cons_of_mem _ hd)
        exact ⟨y :: zs, by simp [e]⟩
    subst ex
    have hxs : ∀ x ∈ xs, SS 1 x := fun x hx => by
      obtain ⟨c, e, hc⟩ := py (.str x) (List.mem_map.mpr ⟨x, hx, rfl⟩)
      cases e
      refine ⟨Nat.le_refl 1, fun c' hc' => ?_⟩
      have : c' = c := by simpa using hc'
      rw [this]
      exact hc
    have hlx : xs.length ≤ 2 := by
      rw [List.length_map] at ly
      rw [ly, List.length_map, List.length_range]
      omega
    have hz0 : ("" : Str).length = 0 := rfl
    have hjoin : ∃ st, (∀ h, joinD "" (.lst (xs.map .str)) h = .ok (.str st) h) ∧ SS 2 st := by
      match xs, hlx, hxs with
      | [], _, _ => exact ⟨Txt.join "" [], fun h => join_strs (ys := []) (by decide), ss_of (by decide +kernel)⟩
      | [a], _, hx =>
        have ha := hx a (by simp)
        have e : Txt.join "" [a] = a := rfl
        refine ⟨a, fun h => ?_, ha.mono (by decide)⟩
        rw [join_strs (by have := ha.le; simp [hz0]; omega), e]
      | [a, b], _, hx =>
        have ha := hx a (by simp)
        have hb := hx b (by simp)
        refine ⟨Txt.join "" [a, b], fun h => join_strs (by have := ha.le; have := hb.le; simp [hz0]; omega), ?_⟩
        have e : Txt.join "" [a, b] = a ++ "" ++ b := rfl
        rw [e]
        exact ss_app (n := 1 + 0) (ss_app ha (ss_of (n := 0) (by decide +kernel))) hb
    obtain ⟨st, ej, ss⟩ := hjoin
    have hidx : ∀ (k : Nat) (h : Hh), ∃ c, (97 ≤ c ∧ c ≤ 122) ∧ idxD (.str abc) (.int (((tn : Int) + 3 * (k : Int)) % 26)) h = .ok (.str ⟨#[c]⟩) h := fun k h => by
      obtain ⟨c, hc, e⟩ := idx_str (h := h) (z := abc) (i := ((tn : Int) + 3 * (k : Int)) % 26) (by rw [habc]; decide) (by omega) (by rw [habc]; omega)
      exact ⟨c, sabc.sm c hc, e⟩
    obtain ⟨ys2, h5, ec2, eh5, ly2, py2⟩ := lc_inv (i := 7) (e := xBin addD (xV 4) (xIdx (xV 3) (xBin modD (xBi .int (xCons (xBin addD (xV 6) (xBin mulD (xC (.int 3)) (xV 7))) (xNil))) (xC (.int 26))))) (ρ := [some (.ref 0), some (.int m), some (.lst (menu.map .str)), some (.str "abcdefghijklmnopqrstuvwxyz"), some (.str st), some (.int v), some (.int tn), none]) (ds := (List.range m).map fun (k : Nat) => .int (0 + (k : Int))) (h := o3 :: r)
      (I := fun h => h = o3 :: r) (P := fun d => ∃ x, d = D.str x ∧ SS 3 x ∧ 0 < x.length) (fun d hd h eo => by
        subst eo
        obtain ⟨k, _, rfl⟩ := List.mem_map.mp hd
        obtain ⟨c, hc, e⟩ := hidx k (o3 :: r)
        have s1 : SS 1 ⟨#[c]⟩ := ⟨Nat.le_refl 1, fun c' hc' => by
          have : c' = c := by simpa using hc'
          rw [this]
          exact hc⟩
        have hz : sz (st.length + (⟨#[c]⟩ : Str).length) = true := sz_of (by have := ss.le; have := s1.le; omega)
        have k3 : small64 3 = true := by decide
        refine ⟨.str (st ++ ⟨#[c]⟩), _, ?_, rfl, _, rfl, ss_app ss s1, by rw [str_len, app_list]; simp⟩
        simp [mul_int (.inl k3), mod_int (show (0 : Int) < 26 by decide), e, addD, hz]) rfl
    subst eh5
    obtain ⟨xs2, ex2⟩ : ∃ xs : List Str, ys2 = xs.map .str := by
      have : ∀ d ∈ ys2, ∃ y, d = D.str y := fun d hd => let ⟨c, e, _⟩ := py2 d hd; ⟨_, e⟩
      clear ec2 ly2 py2
      induction ys2 with
      | nil => exact ⟨[], rfl⟩
      | cons d l ih =>
        obtain ⟨y, rfl⟩ := this d (List.mem_cons_self ..)
        obtain ⟨zs, e⟩ := ih fun d hd => this d (List.mem_cons_of_mem _ hd)
        exact ⟨y :: zs, by simp [e]⟩
    subst ex2
    obtain ⟨zs, ez, pz⟩ := sorted_strs (h := o3 :: r) xs2
    refine ⟨zs, o3, ?_, ?_, fun x hx => ?_, B3⟩
    · simp only [Int.zero_add] at ec ec2
      simp only [bNames, head]
      rw [seq_nx (ρ1 := [some (.ref 0), some (.int m), some (.lst (menu.map .str)), none, none, some (.int v), some (.int tn), none]) (h1 := o2 :: r) (by simp [-lc_at, c0]),
        seq_nx (ρ1 := [some (.ref 0), some (.int m), some (.lst (menu.map .str)), none, none, some (.int v), some (.int tn), none]) (h1 := o2 :: r) (by simp [-lc_at, c1]),
        seq_nx (ρ1 := [some (.ref 0), some (.int m), some (.lst (menu.map .str)), some (.str "abcdefghijklmnopqrstuvwxyz"), none, some (.int v), some (.int tn), none]) (h1 := o2 :: r) (by simp),
        seq_nx (ρ1 := [some (.ref 0), some (.int m), some (.lst (menu.map .str)), some (.str "abcdefghijklmnopqrstuvwxyz"), some (.str st), some (.int v), some (.int tn), none]) (h1 := o3 :: r)]
      · simp only [zRet_at, xBi_at, xCons_at, xNil_at]
        rw [lc_rng (by simp) (by omega) ec2]
        simp only [bind_ok, ez, of_ok, endB_rt, endC_cons]
      · simp only [zSet_at, xStr1_at, xC_at, bind_ok]
        rw [lc_rng (m := v.toNat - 1) (by simp; omega) (by omega) ec]
        simp only [bind_ok, ej, of_ok, List.set_cons_succ, List.set_cons_zero]
    · rw [pz.length_eq]
      simpa using ly2
    · obtain ⟨x', e, s⟩ := py2 (.str x) (List.mem_map.mpr ⟨x, pz.mem_iff.mp hx, rfl⟩)
      cases e
      exact ⟨s.1.mono (by decide), s.2⟩
end Bx
namespace Bx
open PySem PySem.Spec PyProof.Rows L2
/-- o.m(..) of a list -/
def xM (f : D → List D → Hh → Res D) (o : Fn) (as : Fl) : Fn := fun ρ h => (o ρ h).bind fun x h1 => match asL h1 x with
  | some _ => (as ρ h1).bind fun ds h2 => f x ds h2
  | none => .bad
def mApp (a : D) (ds : List D) (h : Hh) : Res D := match a, ds with
  | .ref n, [y] => match h[n]? with
    | some (.lst xs) => if decide (xs.length < sizeLine) then .ok .non (h.set n (.lst (xs ++ [y]))) else .bad
    | _ => .bad
  | _, _ => .bad
def mExt (a : D) (ds : List D) (h : Hh) : Res D := match a, ds with
  | .ref n, [b] => match h[n]?, asL h b with
    | some (.lst xs), some ys => if sz (xs.length + ys.length) then .ok .non (h.set n (.lst (xs ++ ys))) else .bad
    | _, _ => .bad
  | _, _ => .bad
def mClr (a : D) (ds : List D) (h : Hh) : Res D := match a, ds with
  | .ref n, [] => match h[n]? with
    | some (.lst xs) => .ok .non (h.set n (.lst []))
    | _ => .bad
  | _, _ => .bad
def mIns (a : D) (ds : List D) (h : Hh) : Res D := match a, ds with
  | .ref n, [.int i, y] => match h[n]? with
    | some (.lst xs) => if decide (xs.length < sizeLine) && decide (0 ≤ i) && decide (i < 2 ^ 63) then .ok .non (h.set n (.lst (xs.take i.toNat ++ [y] ++ xs.drop i.toNat))) else .bad
    | _ => .bad
  | _, _ => .bad
section
variable {g : Gx} {W : WX} {E : XK} {X : Cx} {o e : Expr} {es : List Expr} {fo : Fn} {fs : Fl} {w : Wd} {H : Hp} {h : Hh} {Q : VK}
theorem q_m {f : D → List D → Hh → Res D} {r : V → List V → Hp → VK → Prop} {e0 : Expr} (hp : ∀ {to : TE} {t : TA}, PE X o to → PA X (e :: es) t → PE X e0 (tBM X.K "list" r to t)) (ho : PE X o (tI g W fo)) (ha : PA X (e :: es) (tL g W fs))
    (hr : ∀ E w H h x ds V Vs Q, HR g w h H → RV g w H x V → RVs g w H ds Vs → OKg g (RV g) w H E Q (f x ds h) → r V Vs H Q) : PE X e0 (tI g W (xM f fo fs)) :=
  ⟨fun pins s σ H Q I ⟨w, ρ, h, sr, q⟩ => (hp ho ha).run pins s σ H Q I (tI_go sr q fun V H1 w1 x h1 l sr1 rv o1 => by
    split at o1
    · rename_i e1
      obtain ⟨p, vs, rfl, hq, t⟩ := asL_ok e1 sr1.hr rv
      exact ⟨.inl ⟨rfl, vs, .inl (.inl hq)⟩, tL_go sr1 o1 fun Vs H2 w2 ds h2 l2 sr2 rvs o2 => hr (wAt W σ) w2 H2 h2 x ds _ Vs Q sr2.hr (rv.mono l2) rvs o2⟩
    · exact o1.elim)⟩
theorem q_m0 {f : D → List D → Hh → Res D} {r : V → List V → Hp → VK → Prop} {e0 : Expr} (hp : ∀ {to : TE}, PE X o to → PE X e0 (tBM0 X.K "list" r to)) (ho : PE X o (tI g W fo))
    (hr : ∀ E w H h x ds V Vs Q, HR g w h H → RV g w H x V → RVs g w H ds Vs → OKg g (RV g) w H E Q (f x ds h) → r V Vs H Q) : PE X e0 (tI g W (xM f fo xNil)) :=
  ⟨fun pins s σ H Q I ⟨w, ρ, h, sr, q⟩ => (hp ho).run pins s σ H Q I (tI_go sr q fun V H1 w1 x h1 l sr1 rv o1 => by
    split at o1
    · rename_i e1
      obtain ⟨p, vs, rfl, hq, t⟩ := asL_ok e1 sr1.hr rv
      exact ⟨.inl ⟨rfl, vs, .inl (.inl hq)⟩, hr (wAt W σ) w1 H1 h1 x [] _ [] Q sr1.hr rv .nil o1⟩
    · exact o1.elim)⟩
theorem app_r {x : D} {ds : List D} {V : V} {Vs : List L2.V} (hr : HR g w h H) (rv : RV g w H x V) (rvs : RVs g w H ds Vs) (q : OKg g (RV g) w H E Q (mApp x ds h)) : rAppend V Vs H Q := by
  unfold mApp at q
  split at q
  · rename_i n y
    split at q
    · rename_i xs e1
      split at q
      · rename_i hz
        obtain ⟨z, rfl, rz⟩ := rvs1 rvs
        cases rv with
        | @ref _ p hp =>
          obtain ⟨nF, vs, e2, t⟩ := hr.ob n _ p e1 hp
          exact ⟨p, vs, z, rfl, rfl, e2, by rw [← t.length]; exact of_decide_eq_true hz, OKg.put (x := .non) q hr e1 hp (t.append (.one rz)) .non⟩
      · exact q.elim
    · exact q.elim
  · exact q.elim
theorem ext_r {x : D} {ds : List D} {V : V} {Vs : List L2.V} (hr : HR g w h H) (rv : RV g w H x V) (rvs : RVs g w H ds Vs) (q : OKg g (RV g) w H E Q (mExt x ds h)) : rExtend V Vs H Q := by
  unfold mExt at q
  split at q
  · rename_i n b
    split at q
    · rename_i xs ys e1 e3
      split at q
      · rename_i hz
        obtain ⟨z, rfl, rz⟩ := rvs1 rvs
        obtain ⟨pb, us, rfl, hq, tb⟩ := asL_ok e3 hr rz
        cases rv with
        | @ref _ p hp =>
          obtain ⟨nF, vs, e2, t⟩ := hr.ob n _ p e1 hp
          exact ⟨p, pb, vs, us, rfl, rfl, e2, hq, by rw [← t.length, ← tb.length]; exact sz_le hz, OKg.put (x := .non) q hr e1 hp (t.append tb) .non⟩
      · exact q.elim
    · exact q.elim
  · exact q.elim
theorem clr_r {x : D} {ds : List D} {V : V} {Vs : List L2.V} (hr : HR g w h H) (rv : RV g w H x V) (rvs : RVs g w H ds Vs) (q : OKg g (RV g) w H E Q (mClr x ds h)) : rClear V Vs H Q := by
  unfold mClr at q
  split at q
  · rename_i n
    split at q
    · rename_i xs e1
      cases rvs
      cases rv with
      | @ref _ p hp =>
        obtain ⟨nF, vs, e2, t⟩ := hr.ob n _ p e1 hp
        exact ⟨p, vs, rfl, rfl, e2, OKg.put (x := .non) q hr e1 hp .nil .non⟩
    · exact q.elim
  · exact q.elim
theorem ins_r {x : D} {ds : List D} {V : V} {Vs : List L2.V} (hr : HR g w h H) (rv : RV g w H x V) (rvs : RVs g w H ds Vs) (q : OKg g (RV g) w H E Q (mIns x ds h)) :
    ∃ (l : Addr) (xs : List L2.V) (i : Int) (y : L2.V), V = .ref l ∧ Vs = [.int i, y] ∧ H l = some (.lst xs) ∧ xs.length < sizeLine ∧ 0 ≤ i ∧ i < 2 ^ 63 ∧ Q .non (upd H l (.lst (xs.take i.toNat ++ [y] ++ xs.drop i.toNat))) := by
  unfold mIns at q
  split at q
  · rename_i n i y
    split at q
    · rename_i xs e1
      split at q
      · rename_i hz
        simp only [Bool.and_eq_true, decide_eq_true_eq] at hz
        obtain ⟨z1, z, rfl, ri, rz⟩ := rvs2 rvs
        cases ri
        cases rv with
        | @ref _ p hp =>
          obtain ⟨nF, vs, e2, t⟩ := hr.ob n _ p e1 hp
          exact ⟨p, vs, i, z, rfl, rfl, e2, by rw [← t.length]; exact hz.1.1, hz.1.2, hz.2, OKg.put (x := .non) q hr e1 hp (((t.take _).append (.one rz)).append (t.drop _)) .non⟩
      · exact q.elim
    · exact q.elim
  · exact q.elim
end
/-- what is given is a list with the next number: it is frozen, the number is free again -/
def frzC (h : Hh) (r : Res D) : Res D := match r with
  | .ok d h' => match d with
    | .ref k => if k = h.length ∧ h'.length = h.length + 1 then (match h'[k]? with
      | some (.lst ds) => .ok (.lst ds) (h'.take h.length)
      | _ => .bad) else .bad
    | d => .ok d h'
  | r => r
open Classical in
noncomputable def xFz (f : Fn) : Fn := fun ρ h => match f ρ h with
  | .ok d h' => match d with
    | .ref k => match h'[k]? with
      | some (.lst ds) => if Keep h h' ∧ k = h.length ∧ h'.length = h.length + 1 ∧ Bels h.length ds then .ok (.lst ds) (h'.take h.length) else .bad
      | _ => .bad
    | d => .ok d h'
  | r => r
section
variable {g : Gx} {W : WX} {X : Cx} {e : Expr} {f : Fn}
theorem q_fz (he : PE X e (tI g W f)) : PE X e (tI g W (xFz f)) := ⟨fun pins s σ H Q I ⟨w, ρ, h, sr, o⟩ => he.run pins s σ H Q I ⟨w, ρ, h, sr, by
  unfold xFz at o
  cases q : f ρ h with
  | bad => rw [q] at o; exact o
  | exc c ds h' => rw [q] at o; exact o
  | ok d h' =>
    rw [q] at o
    cases d with
    | ref k =>
      simp only at o
      split at o
      · rename_i ds e1
        split at o
        · rename_i z
          obtain ⟨kp, rfl, hl, hb⟩ := z
          intro w' H' v l hr' rv
          cases rv with
          | @ref _ a ha =>
            obtain ⟨nF, vs, e2, t⟩ := hr'.ob _ _ a e1 ha
            have hc := hr_cut (n := h.length) hr' (keep_ob sr.hr kp)
            have lc := l.cut []
            rw [List.append_nil, sr.hr.len] at lc
            have hm : a ∉ w'.m.take h.length := fun z => by
              obtain ⟨i, hi, e⟩ := List.getElem_of_mem z
              rw [List.length_take] at hi
              have e1 : w'.m[i]? = some a := by
                rw [List.getElem_take] at e
                rw [List.getElem?_eq_getElem (by omega), e]
              obtain ⟨h1, e1'⟩ := List.getElem?_eq_some_iff.mp ha
              obtain ⟨h2, e2'⟩ := List.getElem?_eq_some_iff.mp e1
              have := (List.getElem_inj hr'.nd).mp (e1'.trans e2'.symm)
              omega
            have hP : ∀ x ∈ w'.P, x.1 ≠ a := fun x hx z => (hr'.pr x hx).2.2 (z ▸ List.mem_of_getElem? ha)
            have hc2 := hr_frz (p := a) hc hm ⟨_, e2⟩ hP fun ps z => by rw [e2] at z; cases z
            have t2 := RVs.re (w' := ⟨w'.m.take h.length, w'.F, w'.P⟩) (fun k a hk e => take_at hk e) (fun _ z => z) t hb
            exact o _ H' (.ref a) (lc.trans (later_frz hc)) hc2 (.lst e2 (.inl rfl) (t2.mono (later_frz hc)))
        · exact o.elim
      · exact o.elim
    | _ => exact o⟩⟩
theorem fz_new {ρ : Rho} {h : Hh} {ds : List D} (e : f ρ h = .ok (.ref h.length) (h ++ [.lst ds])) (hb : Bels h.length ds) : xFz f ρ h = .ok (.lst ds) h := by
  have e1 : (h ++ [O.lst ds])[h.length]? = some (.lst ds) := by simp
  simp only [xFz, e, e1]
  rw [if_pos ⟨keep_app _ _, rfl, by simp, hb⟩, List.take_left']
  rfl
end
end Bx
namespace Bx
open PySem PySem.Spec PyProof.Rows L2
def lc2L (t : Fg) (c : Ft) (it1 : Fl) (own1 : List Nat) (t1 : Fg) (c1 : Ft) (e : Fn) (ρ : Rho) : List D → Hh → Res (List D)
  | [], h => .ok [] h
  | d :: ds, h => match t d ρ with
    | none => .bad
    | some ρ1 => (c ρ1 h).bind fun k h1 => if k then (it1 ρ1 h1).bind fun ds1 h2 => (lcL t1 c1 e (wipeR ρ1 own1) ds1 h2).bind fun xs h3 => (lc2L t c it1 own1 t1 c1 e ρ ds h3).bind fun ys h4 => .ok (xs ++ ys) h4
        else lc2L t c it1 own1 t1 c1 e ρ ds h1
def szL (r : Res (List D)) : Res (List D) := match r with
  | .ok xs h => if sz xs.length then .ok xs h else .bad
  | r => r
def lcE2 (it : Fl) (own : List Nat) (t : Fg) (c : Ft) (it1 : Fl) (own1 : List Nat) (t1 : Fg) (c1 : Ft) (e : Fn) : Fl := fun ρ h => (it ρ h).bind fun ds h1 => noX (szL (lc2L t c it1 own1 t1 c1 e (wipeR ρ own) ds h1))
def xLc2 (f : List D → Hh → Res D) (it : Fl) (own : List Nat) (t : Fg) (c : Ft) (it1 : Fl) (own1 : List Nat) (t1 : Fg) (c1 : Ft) (e : Fn) : Fn := fun ρ h => (lcE2 it own t c it1 own1 t1 c1 e ρ h).bind f
section
variable {g : Gx} {W : WX} {X : Cx} {w : Wd} {ρ : Rho} {h : Hh} {σ : L2.St} {H : Hp}
/-- the list that is made stands at Da, held, with acc in it -/
structure Acc (g : Gx) (w : Wd) (H : Hp) (Da : Addr) (u : Wd) (h' : Hh) (H' : Hp) (acc : List D) (accV : List V) : Prop where
  lv : Lv w H u H'
  eP : u.P = (Da, .lst accV) :: w.P
  hr : HR g u h' H'
  rv : RVs g u H' acc accV
theorem Acc.go {Da : Addr} {u u' : Wd} {h' h2 : Hh} {H' H2 : Hp} {acc : List D} {accV : List V} (a : Acc g w H Da u h' H' acc accV) (l : Later u H' u' H2) (hr : HR g u' h2 H2) : Acc g w H Da u' h2 H2 acc accV :=
  ⟨a.lv.trans l.toLv, by rw [l.pr, a.eP], hr, a.rv.mono l⟩
theorem Acc.held {Da : Addr} {u : Wd} {h' : Hh} {H' : Hp} {acc : List D} {accV : List V} (a : Acc g w H Da u h' H' acc accV) : H' Da = some (.lst accV) ∧ ¬ u.F Da ∧ Da ∉ u.m := a.hr.pr (Da, .lst accV) (by rw [a.eP]; exact List.mem_cons_self ..)
theorem Acc.push {Da : Addr} {u : Wd} {h' : Hh} {H' : Hp} {acc : List D} {accV : List V} {y : D} {vy : V} (a : Acc g w H Da u h' H' acc accV) (nP : ∀ x ∈ w.P, x.1 ≠ Da) (ry : RV g u H' y vy) :
    ∃ u2, Acc g w H Da u2 h' (upd H' Da (.lst (accV ++ [vy]))) (acc ++ [y]) (accV ++ [vy]) ∧ Lv u H' u2 (upd H' Da (.lst (accV ++ [vy]))) := by
  obtain ⟨q1, q2, q3⟩ := a.held
  have hu : u = (⟨u.m, u.F, w.P⟩ : Wd).hold Da (.lst accV) := by
    have := a.eP
    cases u with
    | mk m F P => simp only at this; subst this; rfl
  have hr := a.hr
  rw [hu] at hr
  obtain ⟨r1, r2⟩ := hr_rehold hr (by rw [q1]; trivial) nP (.lst (accV ++ [vy]))
  have l5 : Lv u H' ((⟨u.m, u.F, w.P⟩ : Wd).hold Da (.lst (accV ++ [vy]))) (upd H' Da (.lst (accV ++ [vy]))) :=
    (lv_of (w := u) (w' := ⟨u.m, u.F, w.P⟩) rfl fun _ z => z).trans (r2.trans (lv_of rfl fun _ z => z))
  exact ⟨_, ⟨a.lv.trans l5, rfl, r1, (a.rv.append (.one ry)).mono0 l5⟩, l5⟩
theorem lc2_run {is own is1 own1 : List Nat} {t t1 : Fg} {c c1 : Ft} {it1 : Fl} {e : Fn} {ds es : List D} {h1 h2 : Hh} {J : It} {Qd : V → Hp → Prop} (sr : SR g w ρ h1 σ H) (jo : JOk g J w H ds) (hi : ∀ i ∈ is, i ∈ own) (hi1 : ∀ i ∈ is1, i ∈ own1)
    (ee : lc2L t c it1 own1 t1 c1 e (wipeR ρ own) ds h1 = .ok es h2) (hz : sz es.length = true)
    (fin : ∀ w2 H2 p vs, Later w H w2 H2 → HR g w2 h2 H2 → H2 p = some (.lst vs) → RVs g w2 H2 es vs → ¬ w2.F p → p ∉ w2.m → (∀ x ∈ w2.P, x.1 ≠ p) → Qd (.ref p) H2) :
    ∀ Da, H Da = none → ∃ Wv : Nat → Nat → Hp → Prop, (∃ m, Wv 0 m (upd H Da (.lst []))) ∧ ∀ i m H', Wv i m H' →
      (J.stop i H' ∧ Qd (.ref Da) H') ∨ (J.go i H' ∧ ∃ Nx : Hp → Prop, (∀ H'', Nx H'' → ∃ m', m' < m ∧ Wv (i + 1) m' H'') ∧ ∀ x H'', J.yld i H' x H'' → tG g is t x (wipe σ own) H'' fun σ2 H2 => wipe σ2 own = wipe σ own ∧ tT g EF c σ2 H2 fun b H3 =>
        if b = true then tIt g EF it1 σ2 H3 fun J1 H4 => ∃ W1 : Nat → Nat → Hp → Prop, (∃ m, W1 0 m H4) ∧ ∀ j k H, W1 j k H →
          (J1.stop j H ∧ Nx H) ∨ (J1.go j H ∧ ∃ Nx1 : Hp → Prop, (∀ H', Nx1 H' → ∃ k', k' < k ∧ W1 (j + 1) k' H') ∧ ∀ x H', J1.yld j H x H' → tG g is1 t1 x (wipe σ2 own1) H' fun σ3 H5 => wipe σ3 own1 = wipe σ2 own1 ∧ tT g EF c1 σ3 H5 fun b H6 =>
            if b = true then tI g EF e σ3 H6 fun y H7 => ∃ acc, H7 Da = some (.lst acc) ∧ acc.length < sizeLine ∧ Nx1 (upd H7 Da (.lst (acc ++ [y]))) else Nx1 H6)
        else Nx H3) := by
  intro Da hDa
  have nP := sr.hr.np hDa
  have hzl := sz_le hz
  refine ⟨fun i m H' => m = ds.length - i ∧ i ≤ ds.length ∧ ∃ (u : Wd) (h' : Hh) (acc es' : List D) (accV : List V), Acc g w H Da u h' H' acc accV ∧ lc2L t c it1 own1 t1 c1 e (wipeR ρ own) (ds.drop i) h' = .ok es' h2 ∧ acc ++ es' = es,
    ⟨ds.length, rfl, Nat.zero_le _, w.hold Da (.lst []), h1, [], es, [], ⟨(later_new sr.hr hDa).toLv.trans (lv_of rfl fun _ z => z), rfl, hr_hold sr.hr hDa, .nil⟩, ee, rfl⟩, ?_⟩
  rintro i m H' ⟨rfl, hi', u, h', acc, es', accV, A, el, eapp⟩
  obtain ⟨jg, js⟩ := jo u H' h' A.lv A.hr i
  cases hd : ds[i]? with
  | none =>
    have hn := List.getElem?_eq_none_iff.mp hd
    rw [List.drop_of_length_le hn] at el
    simp only [lc2L, Res.ok.injEq] at el
    obtain ⟨rfl, rfl⟩ := el
    rw [List.append_nil] at eapp
    subst eapp
    refine .inl ⟨js hd, ?_⟩
    have lw : Lv u H' ⟨u.m, u.F, w.P⟩ H' := lv_of rfl fun _ z => z
    refine fin ⟨u.m, u.F, w.P⟩ H' Da accV ⟨A.lv.trans lw, rfl⟩ ?_ A.held.1 (A.rv.mono0 lw) A.held.2.1 A.held.2.2 nP
    exact hr_P A.hr rfl rfl (fun x hx => A.hr.pr x (by rw [A.eP]; exact List.mem_cons_of_mem _ hx)) fun x hx => A.hr.pm x (by rw [A.eP]; exact List.mem_cons_of_mem _ hx)
  | some d =>
    obtain ⟨hlt, hd'⟩ := List.getElem?_eq_some_iff.mp hd
    obtain ⟨go, yl⟩ := jg d hd
    rw [List.drop_eq_getElem_cons hlt, hd'] at el
    unfold lc2L at el
    split at el
    · cases el
    · rename_i ρ1 et
      obtain ⟨k, h3, ec, el⟩ := bind_inv el
      have next : ∀ {H4 : Hp} {u4 : Wd} {h4 : Hh} {acc' es'' : List D} {accV' : List V}, Acc g w H Da u4 h4 H4 acc' accV' → lc2L t c it1 own1 t1 c1 e (wipeR ρ own) (ds.drop (i + 1)) h4 = .ok es'' h2 → acc' ++ es'' = es →
          ∃ m', m' < ds.length - i ∧ m' = ds.length - (i + 1) ∧ i + 1 ≤ ds.length ∧ ∃ (u : Wd) (h' : Hh) (acc es' : List D) (accV : List V), Acc g w H Da u h' H4 acc accV ∧ lc2L t c it1 own1 t1 c1 e (wipeR ρ own) (ds.drop (i + 1)) h' = .ok es' h2 ∧ acc ++ es' = es :=
        fun a1 a2 a3 => ⟨ds.length - (i + 1), by omega, rfl, hlt, _, _, _, _, _, a1, a2, a3⟩
      refine .inr ⟨go, _, fun H'' z => z, fun x H'' y => ?_⟩
      obtain ⟨u2, l2, hr2, rv⟩ := yl x H'' y
      have A2 := A.go l2 hr2
      have sr0 := sr.wipes own
      have sr2 : SR g u2 (wipeR ρ own) h' (wipe σ own) H'' := ⟨hr2, sr0.rs.mono0 A2.lv, sr0.ln⟩
      refine ⟨u2, _, h', d, ρ1, sr2, rv, et, fun σ' sr' hw => ⟨hw own hi |>.trans ?_, u2, ρ1, h', sr', ?_⟩⟩
      · exact wipe_twice σ own
      · rw [ec]
        intro u3 H3 b l3 hr3 rb
        subst rb
        have sr3 := sr'.step l3 hr3
        have A3 := A2.go l3 hr3
        cases k with
        | false =>
          rw [if_neg Bool.false_ne_true]
          rw [if_neg Bool.false_ne_true] at el
          exact next A3 el eapp
        | true =>
          rw [if_pos rfl]
          rw [if_pos rfl] at el
          obtain ⟨ds1, h4, ei, el⟩ := bind_inv el
          obtain ⟨xs, h5, ex, el⟩ := bind_inv el
          obtain ⟨ys, h6, eys, el⟩ := bind_inv el
          simp only [Res.ok.injEq] at el
          obtain ⟨rfl, rfl⟩ := el
          refine ⟨u3, ρ1, h3, sr3, ?_⟩
          rw [ei]
          intro u4 H4 J1 l4 hr4 jo1
          have A4 := A3.go l4 hr4
          have sr4 := sr3.step l4 hr4
          refine ⟨fun j k H5 => k = ds1.length - j ∧ j ≤ ds1.length ∧ ∃ (u5 : Wd) (h' : Hh) (acc1 xs' : List D) (accV1 : List V), Lv u4 H4 u5 H5 ∧ Acc g w H Da u5 h' H5 acc1 accV1 ∧ lcL t1 c1 e (wipeR ρ1 own1) (ds1.drop j) h' = .ok xs' h5 ∧ acc1 ++ (xs' ++ ys) = es,
            ⟨ds1.length, rfl, Nat.zero_le _, u4, h4, acc, xs, accV, (Later.refl _ _).toLv, A4, ex, eapp⟩, ?_⟩
          rintro j k H5 ⟨rfl, hj, u5, h5', acc1, xs', accV1, lv5, A5, el1, eapp1⟩
          obtain ⟨jg1, js1⟩ := jo1 u5 H5 h5' lv5 A5.hr j
          cases hd1 : ds1[j]? with
          | none =>
            have hn := List.getElem?_eq_none_iff.mp hd1
            rw [List.drop_of_length_le hn] at el1
            simp only [lcL, Res.ok.injEq] at el1
            obtain ⟨rfl, rfl⟩ := el1
            exact .inl ⟨js1 hd1, next A5 eys (by simpa using eapp1)⟩
          | some d1 =>
            obtain ⟨hlt1, hd1'⟩ := List.getElem?_eq_some_iff.mp hd1
            obtain ⟨go1, yl1⟩ := jg1 d1 hd1
            rw [List.drop_eq_getElem_cons hlt1, hd1'] at el1
            unfold lcL at el1
            split at el1
            · cases el1
            · rename_i ρ2 et1
              obtain ⟨k1, h6', ec1, el1⟩ := bind_inv el1
              have next1 : ∀ {H7 : Hp} {u7 : Wd} {h7 : Hh} {acc' xs'' : List D} {accV' : List V}, Lv u4 H4 u7 H7 → Acc g w H Da u7 h7 H7 acc' accV' → lcL t1 c1 e (wipeR ρ1 own1) (ds1.drop (j + 1)) h7 = .ok xs'' h5 → acc' ++ (xs'' ++ ys) = es →
                  ∃ k', k' < ds1.length - j ∧ k' = ds1.length - (j + 1) ∧ j + 1 ≤ ds1.length ∧ ∃ (u5 : Wd) (h' : Hh) (acc1 xs' : List D) (accV1 : List V), Lv u4 H4 u5 H7 ∧ Acc g w H Da u5 h' H7 acc1 accV1 ∧ lcL t1 c1 e (wipeR ρ1 own1) (ds1.drop (j + 1)) h' = .ok xs' h5 ∧ acc1 ++ (xs' ++ ys) = es :=
                fun a0 a1 a2 a3 => ⟨ds1.length - (j + 1), by omega, rfl, hlt1, _, _, _, _, _, a0, a1, a2, a3⟩
              refine .inr ⟨go1, _, fun H'' z => z, fun x H6 y => ?_⟩
              obtain ⟨u6, l6, hr6, rv6⟩ := yl1 x H6 y
              have A6 := A5.go l6 hr6
              have lv6 := lv5.trans l6.toLv
              have sw := sr4.wipes own1
              have sr6 : SR g u6 (wipeR ρ1 own1) h5' (wipe σ' own1) H6 := ⟨hr6, sw.rs.mono0 lv6, sw.ln⟩
              refine ⟨u6, _, h5', d1, ρ2, sr6, rv6, et1, fun σ3 sr3' hw1 => ⟨hw1 own1 hi1 |>.trans ?_, u6, ρ2, h5', sr3', ?_⟩⟩
              · exact wipe_twice σ' own1
              · rw [ec1]
                intro u7 H7 b l7 hr7 rb
                subst rb
                have sr7 := sr3'.step l7 hr7
                have A7 := A6.go l7 hr7
                cases k1 with
                | false =>
                  rw [if_neg Bool.false_ne_true]
                  rw [if_neg Bool.false_ne_true] at el1
                  exact next1 (lv6.trans l7.toLv) A7 el1 eapp1
                | true =>
                  rw [if_pos rfl]
                  rw [if_pos rfl] at el1
                  obtain ⟨yv, h8, ey, el1⟩ := bind_inv el1
                  obtain ⟨rest, h9, er, el1⟩ := bind_inv el1
                  simp only [Res.ok.injEq] at el1
                  obtain ⟨rfl, rfl⟩ := el1
                  refine ⟨u7, ρ2, h6', sr7, ?_⟩
                  rw [ey]
                  intro u8 H8 vy l8 hr8 rvy
                  have A8 := A7.go l8 hr8
                  obtain ⟨u9, A9, hh⟩ := A8.push nP rvy
                  refine ⟨accV1, A8.held.1, ?_, ?_⟩
                  · rw [← A8.rv.length]
                    have := congrArg List.length eapp1
                    simp only [List.length_append, List.length_cons] at this
                    omega
                  · exact next1 ((lv6.trans l7.toLv).trans (l8.toLv.trans hh)) A9 er (by rw [List.append_assoc]; exact eapp1)
theorem lc2_rd {f : List D → Hh → Res D} (hf : ∀ E, Hands g E f) {fi it1 : Fl} {is own is1 own1 : List Nat} {t t1 : Fg} {c c1 : Ft} {e : Fn} (hi : ∀ i ∈ is, i ∈ own) (hi1 : ∀ i ∈ is1, i ∈ own1) {Q : VK} (hq : tI g W (xLc2 f fi own t c it1 own1 t1 c1 e) σ H Q) :
    tLc2 (tIt g W fi) (tG g is t) (tT g EF c) (tIt g EF it1) (tG g is1 t1) (tT g EF c1) (tI g EF e) own own1 σ H Q := by
  obtain ⟨w, ρ, h, sr, o⟩ := hq
  unfold xLc2 lcE2 at o
  rw [bind_assoc] at o
  refine ⟨w, ρ, h, sr, (OKg.bind (R := RJ g) o).imp fun J H1 ⟨w1, ds, h1, l, hr1, jo, o1⟩ => ?_⟩
  cases q : noX (szL (lc2L t c it1 own1 t1 c1 e (wipeR ρ own) ds h1)) with
  | bad => rw [q] at o1; exact o1.elim
  | exc c0 d0 h0 =>
    exfalso
    cases q' : szL (lc2L t c it1 own1 t1 c1 e (wipeR ρ own) ds h1) <;> (rw [q'] at q; cases q)
  | ok es h2 =>
    rw [q] at o1
    have q2 := noX_inv q
    cases q3 : lc2L t c it1 own1 t1 c1 e (wipeR ρ own) ds h1 with
    | bad => rw [q3] at q2; cases q2
    | exc c0 d0 h0 => rw [q3] at q2; cases q2
    | ok es' h2' =>
      rw [q3] at q2
      simp only [szL] at q2
      split at q2
      · rename_i hz
        cases q2
        exact lc2_run (sr.step l hr1) jo hi hi1 q3 hz fun w2 H2 p vs l2 hr2 hp rv nF nm nP => hf (wAt W σ) w1 w2 H1 H2 h2 p vs es Q o1 l2 hr2 hp rv nF nm nP
      · cases q2
variable {elt tg iter tg1 iter1 : Expr} {ifs ifs1 : List Expr} {scope : Scope} {own : List (Str × Nat)} {vs1 is is1 : List Nat} {pos p p2 : Pos} {fi it1 : Fl} {t t1 : Fg} {c c1 : Ft} {e : Fn} {f : List D → Hh → Res D}
theorem w_lc2 (hf : ∀ E, Hands g E f) (xo : XO g X) (ok : BlkOk X.N X.env.scope scope own) (hv : ∀ i ∈ vs1, i ∈ own.map (·.2)) (hi : PI X tg iter (tIt g W fi))
    (hg : ∀ (s : Shared) (H : Hp) (C : Addr) (cl : List (Str × Addr)) (fp : List Addr), PG (X.blk s H scope (compEnvC scope cl C X.env) fp) tg (tG g is t)) (ht : ∀ (s : Shared) (H : Hp) (C : Addr) (cl : List (Str × Addr)) (fp : List Addr), PTs (X.blk s H scope (compEnvC scope cl C X.env) fp) ifs (tT g EF c))
    (hi1 : ∀ (s : Shared) (H : Hp) (C : Addr) (cl : List (Str × Addr)) (fp : List Addr), PI (X.blk s H scope (compEnvC scope cl C X.env) fp) tg1 iter1 (tIt g EF it1))
    (hg1 : ∀ (s : Shared) (H : Hp) (C : Addr) (cl : List (Str × Addr)) (fp : List Addr), PG (X.blk s H scope (compEnvC scope cl C X.env) fp) tg1 (tG g is1 t1)) (ht1 : ∀ (s : Shared) (H : Hp) (C : Addr) (cl : List (Str × Addr)) (fp : List Addr), PTs (X.blk s H scope (compEnvC scope cl C X.env) fp) ifs1 (tT g EF c1))
    (he : ∀ (s : Shared) (H : Hp) (C : Addr) (cl : List (Str × Addr)) (fp : List Addr), PE (X.blk s H scope (compEnvC scope cl C X.env) fp) elt (tI g EF e))
    (hsub : ∀ i ∈ is, i ∈ own.map (·.2) := by decide) (hsub1 : ∀ i ∈ is1, i ∈ vs1 := by decide) (hs : ∀ x, foldedSetIterable iter X.env x = pure x := by intro _; rfl) (hs1 : ∀ env x, foldedSetIterable iter1 env x = pure x := by intro _ _; rfl) :
    PE X (.ListComp elt [⟨tg, iter, ifs, 0⟩, ⟨tg1, iter1, ifs1, 0⟩] scope pos) (tI g W (xLc2 f fi (own.map (·.2)) t c it1 vs1 t1 c1 e)) :=
  ⟨fun pins s σ H Q I h => (pe_lc2 xo.calm xo.nd hi ok hv hg ht hi1 hg1 ht1 he hs hs1).run pins s σ H Q I (lc2_rd hf hsub hsub1 h)⟩
theorem w_setLc2 {i : Nat} {x : Str} (hf : ∀ E, Hands g E f) (xo : XO g X) (hy : X.N[i]? = some x) (hyl : X.env.scope.names.lookup x = some .local)
    (hsw : swapsWith (.ListComp elt [⟨tg, iter, ifs, 0⟩, ⟨tg1, iter1, ifs1, 0⟩] scope p) (some (.Name x p2)) pos.line X.env = pure true) (ok : BlkOk X.N X.env.scope scope own) (hv : ∀ i ∈ vs1, i ∈ own.map (·.2)) (hi : PI X tg iter (tIt g W fi))
    (hg : ∀ (s : Shared) (H : Hp) (C : Addr) (cl : List (Str × Addr)) (fp : List Addr), PG (X.blk s H scope (compEnvC scope cl C X.env) fp) tg (tG g is t)) (ht : ∀ (s : Shared) (H : Hp) (C : Addr) (cl : List (Str × Addr)) (fp : List Addr), PTs (X.blk s H scope (compEnvC scope cl C X.env) fp) ifs (tT g EF c))
    (hi1 : ∀ (s : Shared) (H : Hp) (C : Addr) (cl : List (Str × Addr)) (fp : List Addr), PI (X.blk s H scope (compEnvC scope cl C X.env) fp) tg1 iter1 (tIt g EF it1))
    (hg1 : ∀ (s : Shared) (H : Hp) (C : Addr) (cl : List (Str × Addr)) (fp : List Addr), PG (X.blk s H scope (compEnvC scope cl C X.env) fp) tg1 (tG g is1 t1)) (ht1 : ∀ (s : Shared) (H : Hp) (C : Addr) (cl : List (Str × Addr)) (fp : List Addr), PTs (X.blk s H scope (compEnvC scope cl C X.env) fp) ifs1 (tT g EF c1))
    (he : ∀ (s : Shared) (H : Hp) (C : Addr) (cl : List (Str × Addr)) (fp : List Addr), PE (X.blk s H scope (compEnvC scope cl C X.env) fp) elt (tI g EF e))
    (hsub : ∀ i ∈ is, i ∈ own.map (·.2) := by decide) (hsub1 : ∀ i ∈ is1, i ∈ vs1 := by decide) (hs : ∀ x, foldedSetIterable iter X.env x = pure x := by intro _; rfl) (hs1 : ∀ env x, foldedSetIterable iter1 env x = pure x := by intro _ _; rfl) :
    PS X (.Assign [.Name x p2] (.ListComp elt [⟨tg, iter, ifs, 0⟩, ⟨tg1, iter1, ifs1, 0⟩] scope p) pos) (tS g W (zSet i (xLc2 f fi (own.map (·.2)) t c it1 vs1 t1 c1 e))) :=
  q_set (ps_setLc2 xo.calm xo.nd hy hyl hsw hi ok hv hg ht hi1 hg1 ht1 he hs hs1) fun _ _ _ h => lc2_rd hf hsub hsub1 h
end
end Bx
namespace Bx
open PySem PySem.Spec PyProof.Rows L2
def dcL (t : Fg) (c : Ft) (ek ev : Fn) (ρ : Rho) : List D → List (Key × D) → Hh → Res (List (Key × D))
  | [], acc, h => .ok acc h
  | d :: ds, acc, h => match t d ρ with
    | none => .bad
    | some ρ1 => (c ρ1 h).bind fun b h1 => if b then (ek ρ1 h1).bind fun kd h2 => (ev ρ1 h2).bind fun v h3 => match toK kd with
        | some k => dcL t c ek ev ρ ds (dput acc k v) h3
        | none => .bad
      else dcL t c ek ev ρ ds acc h1
def xDc (it : Fl) (own : List Nat) (t : Fg) (c : Ft) (ek ev : Fn) : Fn := fun ρ h => (it ρ h).bind fun ds h1 => if sz ds.length then (noX (dcL t c ek ev (wipeR ρ own) ds [] h1)).bind fun kds h2 => .ok (.dct kds) h2 else .bad
section
variable {g : Gx} {W : WX} {X : Cx} {w : Wd} {ρ : Rho} {h : Hh} {σ : L2.St} {H : Hp}
/-- a thing that is no list, tuple .. of the world's is changed -/
theorem later_upd {p : Addr} {o : HO} (hF : ¬ w.F p) (hm : Mu (H p)) : Later w H w (upd H p o) :=
  ⟨⟨fun _ z => z, fun b u f r => by rw [upd_ne (show b ≠ p from fun z => hF (z ▸ f))]; exact r, fun b o u r => by rw [upd_ne (fun z => by subst z; rw [r] at hm; exact hm)]; exact r, fun b o' _ f r => by rw [upd_ne (show b ≠ p from fun z => hF (z ▸ f))]; exact r, fun b xs r => by rw [upd_ne (fun z => by subst z; rw [r] at hm; exact hm)]; exact r, fun b xs r => by rw [upd_ne (fun z => by subst z; rw [r] at hm; exact hm)]; exact r, ⟨[], by simp⟩⟩, rfl⟩
theorem hr_upd {p : Addr} {o : HO} (q : HR g w h H) (hF : ¬ w.F p) (hm : Mu (H p)) (hn : p ∉ w.m) (hP : ∀ x ∈ w.P, x.1 ≠ p) : HR g w h (upd H p o) := by
  refine ⟨q.len, q.nd, fun b z => ?_, fun i o1 b e1 e2 => ?_, fun x hx => ?_, tabs_upd q.tb (.inr hm), fun b ps z => by rw [upd_ne (show b ≠ p from fun y => hF (y ▸ z))]; exact q.nt b ps z, q.pm⟩
  · obtain ⟨u, e⟩ := q.fz b z
    exact ⟨u, by rw [upd_ne (show b ≠ p from fun y => hF (y ▸ z))]; exact e⟩
  · have hb : b ≠ p := fun z => hn (z ▸ List.mem_of_getElem? e2)
    exact (q.ob i o1 b e1 e2).mono (later_upd hF hm) Iff.rfl (.inl (upd_ne hb))
  · obtain ⟨k1, k2, k3⟩ := q.pr x hx
    exact ⟨by rw [upd_ne (hP x hx)]; exact k1, k2, k3⟩
structure AccD (g : Gx) (w : Wd) (H : Hp) (Da : Addr) (u : Wd) (h' : Hh) (H' : Hp) (acc : List (Key × D)) (accV : List (Key × V)) : Prop where
  lv : Lv w H u H'
  eP : u.P = (Da, .dK accV) :: w.P
  hr : HR g u h' H'
  ke : accV.map (·.1) = acc.map (·.1)
  rv : RVs g u H' (acc.map (·.2)) (accV.map (·.2))
theorem AccD.go {Da : Addr} {u u' : Wd} {h' h2 : Hh} {H' H2 : Hp} {acc : List (Key × D)} {accV : List (Key × V)} (a : AccD g w H Da u h' H' acc accV) (l : Later u H' u' H2) (hr : HR g u' h2 H2) : AccD g w H Da u' h2 H2 acc accV :=
  ⟨a.lv.trans l.toLv, by rw [l.pr, a.eP], hr, a.ke, a.rv.mono l⟩
theorem AccD.held {Da : Addr} {u : Wd} {h' : Hh} {H' : Hp} {acc : List (Key × D)} {accV : List (Key × V)} (a : AccD g w H Da u h' H' acc accV) : H' Da = some (.dK accV) ∧ ¬ u.F Da ∧ Da ∉ u.m := a.hr.pr (Da, .dK accV) (by rw [a.eP]; exact List.mem_cons_self ..)
theorem AccD.push {Da : Addr} {u : Wd} {h' : Hh} {H' : Hp} {acc : List (Key × D)} {accV : List (Key × V)} {y : D} {vy : V} (a : AccD g w H Da u h' H' acc accV) (nP : ∀ x ∈ w.P, x.1 ≠ Da) (k : Key) (ry : RV g u H' y vy) :
    ∃ u2, AccD g w H Da u2 h' (upd H' Da (.dK (putK accV k vy))) (dput acc k y) (putK accV k vy) := by
  obtain ⟨q1, q2, q3⟩ := a.held
  have hu : u = (⟨u.m, u.F, w.P⟩ : Wd).hold Da (.dK accV) := by
    have := a.eP
    cases u with
    | mk m F P => simp only at this; subst this; rfl
  have hr := a.hr
  rw [hu] at hr
  obtain ⟨r1, r2⟩ := hr_rehold hr (by rw [q1]; trivial) nP (.dK (putK accV k vy))
  have l5 : Lv u H' ((⟨u.m, u.F, w.P⟩ : Wd).hold Da (.dK (putK accV k vy))) (upd H' Da (.dK (putK accV k vy))) :=
    (lv_of (w := u) (w' := ⟨u.m, u.F, w.P⟩) rfl fun _ z => z).trans (r2.trans (lv_of rfl fun _ z => z))
  obtain ⟨k1, k2⟩ := dput_ok (k := k) a.ke a.rv ry
  exact ⟨_, a.lv.trans l5, rfl, r1, k1, k2.mono0 l5⟩
theorem dput_len (kds : List (Key × D)) (k : Key) (d : D) : (dput kds k d).length ≤ kds.length + 1 := by
  unfold dput
  split
  · rw [List.length_map]; omega
  · rw [List.length_append]; simp
theorem dc_run {is own : List Nat} {t : Fg} {c : Ft} {ek ev : Fn} {ds : List D} {kds : List (Key × D)} {h1 h2 : Hh} {J : It} {Qd : V → Hp → Prop} (sr : SR g w ρ h1 σ H) (jo : JOk g J w H ds) (hz : sz ds.length = true) (hi : ∀ i ∈ is, i ∈ own)
    (ee : dcL t c ek ev (wipeR ρ own) ds [] h1 = .ok kds h2)
    (fin : ∀ w2 H2 p kvs, Later w H w2 H2 → HR g w2 h2 H2 → H2 p = some (.dK kvs) → kvs.map (·.1) = kds.map (·.1) → RVs g w2 H2 (kds.map (·.2)) (kvs.map (·.2)) → ¬ w2.F p → p ∉ w2.m → (∀ x ∈ w2.P, x.1 ≠ p) → Qd (.ref p) H2) :
    ∀ Da, H Da = none → ∃ Wv : Nat → Nat → Hp → Prop, (∃ m, Wv 0 m (upd H Da (.dK []))) ∧ ∀ i m H', Wv i m H' →
      (J.stop i H' ∧ Qd (.ref Da) H') ∨ (J.go i H' ∧ ∃ Nx : Hp → Prop, (∀ H'', Nx H'' → ∃ m', m' < m ∧ Wv (i + 1) m' H'') ∧ ∀ x H'', J.yld i H' x H'' → tG g is t x (wipe σ own) H'' fun σ2 H2 => wipe σ2 own = wipe σ own ∧ tT g EF c σ2 H2 fun b H3 =>
        if b = true then tI g EF ek σ2 H3 fun y H4 => tI g EF ev σ2 H4 fun z H5 => ∃ kvs k, y = kV k ∧ H5 Da = some (.dK kvs) ∧ kvs.length < sizeLine ∧ Nx (upd H5 Da (.dK (putK kvs k z))) else Nx H3) := by
  intro Da hDa
  have nP := sr.hr.np hDa
  refine ⟨fun i m H' => m = ds.length - i ∧ i ≤ ds.length ∧ ∃ (u : Wd) (h' : Hh) (acc : List (Key × D)) (accV : List (Key × V)), AccD g w H Da u h' H' acc accV ∧ acc.length ≤ i ∧ dcL t c ek ev (wipeR ρ own) (ds.drop i) acc h' = .ok kds h2,
    ⟨ds.length, rfl, Nat.zero_le _, w.hold Da (.dK []), h1, [], [], ⟨(later_new sr.hr hDa).toLv.trans (lv_of rfl fun _ z => z), rfl, hr_hold sr.hr hDa, rfl, .nil⟩, Nat.le_refl _, ee⟩, ?_⟩
  rintro i m H' ⟨rfl, hi', u, h', acc, accV, A, hlen, el⟩
  obtain ⟨jg, js⟩ := jo u H' h' A.lv A.hr i
  cases hd : ds[i]? with
  | none =>
    have hn := List.getElem?_eq_none_iff.mp hd
    rw [List.drop_of_length_le hn] at el
    simp only [dcL, Res.ok.injEq] at el
    obtain ⟨rfl, rfl⟩ := el
    refine .inl ⟨js hd, ?_⟩
    have lw : Lv u H' ⟨u.m, u.F, w.P⟩ H' := lv_of rfl fun _ z => z
    refine fin ⟨u.m, u.F, w.P⟩ H' Da accV ⟨A.lv.trans lw, rfl⟩ ?_ A.held.1 A.ke (A.rv.mono0 lw) A.held.2.1 A.held.2.2 nP
    exact hr_P A.hr rfl rfl (fun x hx => A.hr.pr x (by rw [A.eP]; exact List.mem_cons_of_mem _ hx)) fun x hx => A.hr.pm x (by rw [A.eP]; exact List.mem_cons_of_mem _ hx)
  | some d =>
    obtain ⟨hlt, hd'⟩ := List.getElem?_eq_some_iff.mp hd
    obtain ⟨go, yl⟩ := jg d hd
    rw [List.drop_eq_getElem_cons hlt, hd'] at el
    unfold dcL at el
    split at el
    · cases el
    · rename_i ρ1 et
      obtain ⟨k, h3, ec, el⟩ := bind_inv el
      have next : ∀ {H4 : Hp} {u4 : Wd} {h4 : Hh} {acc' : List (Key × D)} {accV' : List (Key × V)}, AccD g w H Da u4 h4 H4 acc' accV' → acc'.length ≤ i + 1 → dcL t c ek ev (wipeR ρ own) (ds.drop (i + 1)) acc' h4 = .ok kds h2 →
          ∃ m', m' < ds.length - i ∧ m' = ds.length - (i + 1) ∧ i + 1 ≤ ds.length ∧ ∃ (u : Wd) (h' : Hh) (acc : List (Key × D)) (accV : List (Key × V)), AccD g w H Da u h' H4 acc accV ∧ acc.length ≤ i + 1 ∧ dcL t c ek ev (wipeR ρ own) (ds.drop (i + 1)) acc h' = .ok kds h2 :=
        fun a1 a2 a3 => ⟨ds.length - (i + 1), by omega, rfl, hlt, _, _, _, _, a1, a2, a3⟩
      refine .inr ⟨go, _, fun H'' z => z, fun x H'' y => ?_⟩
      obtain ⟨u2, l2, hr2, rv⟩ := yl x H'' y
      have A2 := A.go l2 hr2
      have sr0 := sr.wipes own
      have sr2 : SR g u2 (wipeR ρ own) h' (wipe σ own) H'' := ⟨hr2, sr0.rs.mono0 A2.lv, sr0.ln⟩
      refine ⟨u2, _, h', d, ρ1, sr2, rv, et, fun σ' sr' hw => ⟨hw own hi |>.trans ?_, u2, ρ1, h', sr', ?_⟩⟩
      · exact wipe_twice σ own
      · rw [ec]
        intro u3 H3 b l3 hr3 rb
        subst rb
        have sr3 := sr'.step l3 hr3
        have A3 := A2.go l3 hr3
        cases k with
        | false =>
          rw [if_neg Bool.false_ne_true]
          rw [if_neg Bool.false_ne_true] at el
          exact next A3 (by omega) el
        | true =>
          rw [if_pos rfl]
          rw [if_pos rfl] at el
          obtain ⟨kd, h4, ek1, el⟩ := bind_inv el
          obtain ⟨v, h5, ev1, el⟩ := bind_inv el
          split at el
          · rename_i kk e5
            refine ⟨u3, ρ1, h3, sr3, ?_⟩
            rw [ek1]
            intro u4 H4 vk l4 hr4 rvk
            have sr4 := sr3.step l4 hr4
            have A4 := A3.go l4 hr4
            refine ⟨u4, ρ1, h4, sr4, ?_⟩
            rw [ev1]
            intro u5 H5 vv l5 hr5 rvv
            have A5 := A4.go l5 hr5
            obtain ⟨u6, A6⟩ := A5.push nP kk rvv
            refine ⟨accV, kk, toK_ok e5 rvk, A5.held.1, ?_, next A6 (by have := dput_len acc kk v; omega) el⟩
            have e6 := congrArg List.length A5.ke
            simp only [List.length_map] at e6
            have := sz_le hz
            omega
          · cases el
theorem dc_rd {fi : Fl} {is own : List Nat} {t : Fg} {c : Ft} {ek ev : Fn} (hi : ∀ i ∈ is, i ∈ own) {Q : VK} (hq : tI g W (xDc fi own t c ek ev) σ H Q) :
    tLockN (tDc (tIt g W fi) (tG g is t) (tT g EF c) (tI g EF ek) (tI g EF ev) own) σ H Q := by
  obtain ⟨w, ρ, h, sr, o⟩ := hq
  refine ⟨w, ρ, h, sr, (OKg.bind (R := RJ g) o).imp fun J H1 ⟨w1, ds, h1, l, hr1, jo, o1⟩ => ?_⟩
  split at o1
  · rename_i hz
    cases q : noX (dcL t c ek ev (wipeR ρ own) ds [] h1) with
    | bad => rw [q] at o1; exact o1.elim
    | exc c0 d0 h0 =>
      exfalso
      cases q' : dcL t c ek ev (wipeR ρ own) ds [] h1 <;> (rw [q'] at q; cases q)
    | ok kds h2 =>
      rw [q] at o1
      have o1 : OKg g (RV g) w1 H1 (wAt W σ) Q (.ok (.dct kds) h2) := o1
      exact dc_run (Qd := fun v H' => ∃ d u, v = V.ref d ∧ H' d = some u ∧ Mut (some u) ∧ ∀ (ob : Obj), Q v (upd H' d (HO.frz ob u))) (sr.step l hr1) jo hz hi (noX_inv q) fun w2 H2 p kvs l2 hr2 hp ke rv nF nm nP => ⟨p, _, rfl, hp, trivial, fun ob =>
        have mu : Mu (H2 p) := by rw [hp]; trivial
        o1 w2 _ (.ref p) (l2.trans (later_upd nF mu)) (hr_upd hr2 nF mu nm nP) (.dct upd_same ke (rv.mono (later_upd nF mu)))⟩
  · exact o1.elim
variable {kx vx tg iter : Expr} {ifs : List Expr} {scope : Scope} {own : List (Str × Nat)} {is : List Nat} {pos : Pos} {fi : Fl} {t : Fg} {c : Ft} {ek ev : Fn}
theorem w_dc (xo : XO g X) (ok : BlkOk X.N X.env.scope scope own) (hi : PI X tg iter (tIt g W fi))
    (hg : ∀ (s : Shared) (H : Hp) (C : Addr) (cl : List (Str × Addr)) (fp : List Addr), PG (X.blk s H scope (compEnvC scope cl C X.env) fp) tg (tG g is t)) (ht : ∀ (s : Shared) (H : Hp) (C : Addr) (cl : List (Str × Addr)) (fp : List Addr), PTs (X.blk s H scope (compEnvC scope cl C X.env) fp) ifs (tT g EF c))
    (hk : ∀ (s : Shared) (H : Hp) (C : Addr) (cl : List (Str × Addr)) (fp : List Addr), PE (X.blk s H scope (compEnvC scope cl C X.env) fp) kx (tI g EF ek))
    (he : ∀ (s : Shared) (H : Hp) (C : Addr) (cl : List (Str × Addr)) (fp : List Addr), PE (X.blk s H scope (compEnvC scope cl C X.env) fp) vx (tI g EF ev))
    (hsub : ∀ i ∈ is, i ∈ own.map (·.2) := by decide) (hs : ∀ x, foldedSetIterable iter X.env x = pure x := by intro _; rfl) :
    PE X (.DictComp kx vx [⟨tg, iter, ifs, 0⟩] scope pos) (tI g W (xDc fi (own.map (·.2)) t c ek ev)) :=
  ⟨fun pins s σ H Q I h => (pe_lockN (pe_dc xo.calm xo.nd hi ok hg ht hk he hs)).run pins s σ H Q I (dc_rd hsub h)⟩
def keysD (d : D) (h : Hh) : Res (List D) := match d with
  | .dct kds => .ok (kds.map fun p => ofK p.1) h
  | _ => .bad
def iK (a : Fn) : Fl := fun ρ h => (a ρ h).bind fun d h1 => keysD d h1
theorem jok_keys {a : Addr} {ob : Obj} {kvs : List (Key × V)} {kds : List (Key × D)} (hp : H a = some (.frz ob (.dK kvs))) (ke : kvs.map (·.1) = kds.map (·.1)) : JOk g (Itk a ob kvs) w H (kds.map fun p => ofK p.1) := fun w' H' h' l hr i => by
  have e := l.sf a ob _ hp
  have hl : kvs.length = kds.length := by simpa using congrArg List.length ke
  refine ⟨fun d hd => ?_, fun hd => ?_⟩
  · rw [List.getElem?_map, Option.map_eq_some_iff] at hd
    obtain ⟨p, e1, rfl⟩ := hd
    have hi := (List.getElem?_eq_some_iff.mp e1).1
    refine ⟨⟨e, by omega⟩, fun x H'' y => ?_⟩
    obtain ⟨rfl, k, v, e2, rfl⟩ := y
    have e3 : (kvs.map (·.1))[i]? = (kds.map (·.1))[i]? := by rw [ke]
    rw [List.getElem?_map, List.getElem?_map, e1, e2] at e3
    have e4 : k = p.1 := by simpa using e3
    rw [e4]
    exact ⟨w', Later.refl _ _, hr, ofK_ok _⟩
  · rw [List.getElem?_map, Option.map_eq_none_iff] at hd
    have := List.getElem?_eq_none_iff.mp hd
    exact ⟨e, by omega⟩
theorem q_keys {a tg : Expr} {fa : Fn} (ha : PE X a (tI g W fa)) : PI X tg a (tIt g W (iK fa)) := ⟨fun pins s σ H R I ⟨w, ρ, h, sr, o⟩ => (pi_keys ha).run pins s σ H R I (tI_go sr o fun V H1 w1 d h1 l sr1 rv o1 => by
  unfold keysD at o1
  split at o1
  · cases rv with
    | dct hp ke t => exact ⟨_, _, rfl, .inl ⟨_, hp, o1 w1 H1 _ (Later.refl w1 H1) sr1.hr (jok_keys hp ke)⟩⟩
  · exact o1.elim)⟩
def prK : D → Option (Key × D)
  | .tup [k, v] => (toK k).map fun k => (k, v)
  | _ => none
def prKs : List D → Option (List (Key × D))
  | [] => some []
  | d :: ds => match prK d, prKs ds with | some p, some ps => some (p :: ps) | _, _ => none
def dmerge (kds : List (Key × D)) : List (Key × D) := kds.foldl (fun acc p => dput acc p.1 p.2) []
def xDictP (f : Fn) : Fn := fun ρ h => (f ρ h).bind fun d h1 => match asL h1 d with
  | some ds => match prKs ds with
    | some kds => .ok (.dct (dmerge kds)) h1
    | none => .bad
  | none => .bad
theorem prKs_ok {K : PySem.W.Frag} : ∀ {ds : List D} {kds : List (Key × D)} {vs : List V}, prKs ds = some kds → RVs g w H ds vs → ∃ (ps : List Addr) (kvs : List (Key × V)), vs = ps.map V.ref ∧ Paired (fun p kv => SqT K H p [kV kv.1, kv.2]) ps kvs ∧ kvs.map (·.1) = kds.map (·.1) ∧ RVs g w H (kds.map (·.2)) (kvs.map (·.2))
  | [], kds, vs, e, r => by
    simp only [prKs, Option.some.injEq] at e
    subst e
    cases r
    exact ⟨[], [], rfl, .nil, rfl, .nil⟩
  | d :: ds, kds, vs, e, r => by
    simp only [prKs] at e
    split at e
    · rename_i p ps e1 e2
      cases e
      cases r with
      | cons r1 r2 =>
        obtain ⟨as, kvs, rfl, pr, ke, rv⟩ := prKs_ok (K := K) e2 r2
        unfold prK at e1
        split at e1
        · rename_i k v
          rw [Option.map_eq_some_iff] at e1
          obtain ⟨kk, e3, rfl⟩ := e1
          obtain ⟨a, us, rfl, hp, t⟩ := rv_tup r1
          obtain ⟨x, y, rfl, rx, ry⟩ := rvs2 t
          rw [toK_ok e3 rx] at hp
          exact ⟨a :: as, (kk, y) :: kvs, rfl, .cons (.inl (.inl hp)) pr, by simp [ke], .cons ry rv⟩
        · cases e1
    · cases e
theorem merge_ok : ∀ {kds acc : List (Key × D)} {kvs accV : List (Key × V)}, accV.map (·.1) = acc.map (·.1) → RVs g w H (acc.map (·.2)) (accV.map (·.2)) → kvs.map (·.1) = kds.map (·.1) → RVs g w H (kds.map (·.2)) (kvs.map (·.2)) →
    (mergeK accV kvs).map (·.1) = (kds.foldl (fun acc p => dput acc p.1 p.2) acc).map (·.1) ∧ RVs g w H ((kds.foldl (fun acc p => dput acc p.1 p.2) acc).map (·.2)) ((mergeK accV kvs).map (·.2))
  | [], acc, [], accV, k1, r1, _, _ => ⟨k1, r1⟩
  | [], _, _ :: _, _, _, _, e, _ => by simp at e
  | _ :: _, _, [], _, _, _, e, _ => by simp at e
  | p :: kds, acc, q :: kvs, accV, k1, r1, e, r => by
    simp only [List.map_cons, List.cons.injEq] at e
    cases r with
    | cons ra rb =>
      obtain ⟨k2, r2⟩ := dput_ok (k := q.1) k1 r1 ra
      rw [e.1] at k2 r2
      have := merge_ok (accV := putK accV q.1 q.2) (acc := dput acc p.1 p.2) (by rw [e.1]; exact k2) (by rw [e.1]; exact r2) e.2 rb
      exact this
theorem q_dictP {a : Expr} {fa : Fn} {p pos : Pos} (xo : XO g X) (hg : Gl X "dict") (hm : g.mg "dict" = none) (ha : PE X a (tI g W fa)) (hs : starEach [a] X.env = [(false, eval a X.env)] := by rfl) : PE X (.Call (.Name "dict" p) [a] [] pos) (tI g W (xDictP fa)) := by
  have hp := pe_lockN (pe_callTy (p := p) (pos := pos) (call_dictP xo.calm) hg (by rw [xo.mg]; exact hm) (by decide +kernel) (pa_cons ha pa_nil hs) (by decide +kernel) (by decide +kernel) hs)
  exact ⟨fun pins s σ H Q I ⟨w, ρ, h, sr, o⟩ => hp.run pins s σ H Q I (tI_go sr o fun V H1 w1 d h1 l sr1 rv o1 => by
    split at o1
    · rename_i ds e1
      split at o1
      · rename_i kds e2
        obtain ⟨pa, vs, rfl, hq, t⟩ := asL_ok e1 sr1.hr rv
        obtain ⟨ps, kvs, rfl, pr, ke, rk⟩ := prKs_ok (K := X.K) e2 t
        obtain ⟨k2, r2⟩ := merge_ok (acc := []) (accV := []) rfl .nil ke rk
        refine ⟨pa, ps, kvs, rfl, .inl (.inl hq), pr, fun q hq2 => ⟨q, _, rfl, upd_same, trivial, fun ob => ?_⟩⟩
        rw [upd_twice]
        exact OKg.dct o1 sr1.hr k2 r2 q ob hq2
      · exact o1.elim
    · exact o1.elim)⟩
end
end Bx
namespace Bs
open PySem PySem.Spec PyProof.Rows L2
def Ext (h0 h : Heap) : Prop := ∀ b o, h0.get? b = some o → h.get? b = some o
/-- objects of h0 (those of T), a test of sameness, a hash: what the machine asks of them, wherever h0 still stands -/
structure El (P : Program) (w : World) (h0 : Heap) (T : Addr → Prop) (same : Addr → Addr → Bool) (th : Addr → Int) : Prop where
  cong : ∀ a b, T a → T b → same a b = true → th a = th b
  trans : ∀ a b c, same a b = true → same b c = true → same a c = true
  symm : ∀ a b, same a b = true → same b a = true
  eq : ∀ (A : Around) (E : Value → Shared → Prop) (s : Shared) (Q : Bool → Shared → Prop) (a b : Addr), T a → T b → Ext h0 s.heap → A.units < cLine → Q (same a b) s → wpAny (model P w) A (eqBool (.ref a) (.ref b)) Q E s
  calm : ∀ (A : Around) (E : Value → Shared → Prop) (s : Shared) (Q : Bool → Shared → Prop) (x : Addr) (ys : List Value), T x → (∀ y ∈ ys, ∃ b, y = .ref b ∧ T b) → Ext h0 s.heap → Q false s → wpAny (model P w) A (searchCouldBeSeen (.ref x) ys) Q E s
  byv : ∀ (A : Around) (E : Value → Shared → Prop) (s : Shared) (Q : Bool → Shared → Prop) (x : Addr), T x → Ext h0 s.heap → (∀ b, Q b s) → wpAny (model P w) A (hashByValue 8 (.ref x)) Q E s
  hash : ∀ (A : Around) (E : Value → Shared → Prop) (s : Shared) (Q : Int → Shared → Prop) (x : Addr), T x → Ext h0 s.heap → A.units < cLine → (∀ tk, s.toks ≤ tk → Q (th x) { s with toks := tk }) → wpAny (model P w) A (pyHash (.ref x)) Q E s
/-- the set at S holds the objects as -/
structure Hold (w : World) (T : Addr → Prop) (same : Addr → Addr → Bool) (th : Addr → Int) (h : Heap) (S : Addr) (as : List Addr) (es : Array (Int × Value)) (ep : Nat) (t : SetTable) : Prop where
  ob : ∃ o, h.get? S = some o ∧ o.ExactSet ∧ o.data = .set es ep t
  rows : es.toList = as.map fun a => (th a, Value.ref a)
  tab : TabOk t (as.map th)
  apart : as.Pairwise fun a b => same a b = false
  tt : ∀ a ∈ as, T a
  led : w.params.followText "set-order" = true ∨ t.led = true
  room : as.length * 5 < t.mask * 3
  few : as.length < 64
section
variable {P : Program} {w : World} {h0 : Heap} {T : Addr → Prop} {same : Addr → Addr → Bool} {th : Addr → Int} {A : Around} {E : Value → Shared → Prop} {s : Shared} {S : Addr} {as : List Addr} {es : Array (Int × Value)} {ep : Nat} {t : SetTable}
theorem Hold.size {h : Heap} (R : Hold w T same th h S as es ep t) : es.size = as.length := by
  rw [← Array.length_toList, R.rows, List.length_map]
theorem Hold.fits {h : Heap} (R : Hold w T same th h S as es ep t) : t.fits es.size = true := by
  have e1 := R.tab.sz
  rw [List.length_map] at e1
  simp only [SetTable.fits, SetTable.fill, R.tab.dm, Bool.and_eq_true, beq_iff_eq, decide_eq_true_eq]
  have := R.size
  have := R.room
  constructor
  · omega
  · show t.place.size + 0 ≤ t.mask
    omega
theorem Hold.at {h : Heap} (R : Hold w T same th h S as es ep t) {i : Nat} {y : Addr} (e : as[i]? = some y) : es[i]? = some (th y, .ref y) := by
  rw [← Array.getElem?_toList, R.rows, List.getElem?_map, e]
  rfl
theorem Hold.odd {h : Heap} (R : Hold w T same th h S as es ep t) : (t.gaveWay = true) → False := fun z => by
  simp only [SetTable.gaveWay, mask_odd R.tab.mok] at z
  exact absurd z (by decide)
/-- where the c-th step of x's way stands -/
def spot (t : SetTable) (h : Int) (c : Nat) : SetTable.Probe := nth t.mask (t.probeStart h) c
theorem spot_j (t : SetTable) (h : Int) (c : Nat) : (spot t h c).j = way t.mask h c := rfl
theorem spot_add (t : SetTable) (h : Int) (c q : Nat) : nth t.mask (spot t h c) q = spot t h (c + q) := (nth_add t.mask c _ q).symm
theorem nth_dummy (m : Nat) : ∀ (q : Nat) (p : SetTable.Probe), p.dummy = none → (nth m p q).dummy = none
  | 0, p, e => e
  | q + 1, p, e => nth_dummy m q (adv m p) (by unfold adv; split <;> exact e)
theorem find_go (L : El P w h0 T same th) (R : Hold w T same th s.heap S as es ep t) (hx0 : Ext h0 s.heap) {x : Addr} (tx : T x) (hu : A.units < cLine) {K : Nat} (hK : K < 10 * SetTable.turns t.mask) (free : way t.mask (th x) K ∉ t.place.toList) (full : ∀ c, c < K → way t.mask (th x) c ∈ t.place.toList)
    {Q : SetFound → Shared → Prop} (yes : (∃ y ∈ as, same y x = true) → Q (.there none) s) (no : (∀ y ∈ as, same y x = false) → Q (.free (way t.mask (th x) K) false) s) :
    ∀ (f c : Nat) (st : Option SetTable.Probe), st.getD (t.probeStart (th x)) = spot t (th x) c → c ≤ K → K - c < f →
      (∀ (i : Nat) (y : Addr), as[i]? = some y → same y x = true → ∃ c', c ≤ c' ∧ c' < K ∧ t.place.toList[i]? = some (way t.mask (th x) c')) →
      wpAny (model P w) A (setSearchFrom S (.ref x) (th x) true f st) Q E s := by
  obtain ⟨o, ho, hex, hd⟩ := R.ob
  intro f
  induction f with
  | zero => intro c st _ _ hf _; omega
  | succ f ih =>
    intro c st hst hc hf left
    rw [setSearchFrom_succ]
    refine wpAny_bind (wpAny_setState_of ho hd R.fits ?_)
    refine wp_if_neg (fun z => R.odd z) ?_
    try refine wpAny_bind (wpAny_pure ?_)
    have hAt : ∀ (i : Nat) (y : Addr), as[i]? = some y → ((es[i]?.map (·.1)).getD 0) = th y := fun i y e => by rw [R.at e]; rfl
    have look := go_spec t R.tab.ris R.tab.dm (fun i => (es[i]?.map (·.1)).getD 0) (th x) (10 * SetTable.turns t.mask) (K - c) (spot t (th x) c) (nth_dummy _ _ _ rfl) (by omega)
      (fun q hq => by rw [spot_add, spot_j]; exact full _ (by omega)) (by rw [spot_add, spot_j, show c + (K - c) = K by omega]; exact free)
    simp only [spot_add, spot_j] at look
    rcases look with ⟨q, i, hq, hi, hh, early, pr⟩ | ⟨early, pr⟩
    · have pr' : t.probe (fun i => (es[i]?.map (·.1)).getD 0) (th x) (st.getD (t.probeStart (th x))) = some (.candidate (way t.mask (th x) (c + q)) i (spot t (th x) (c + (q + 1)))) := by rw [hst]; exact pr
      rw [pr']
      dsimp only
      have il : i < as.length := by
        have z1 := (List.getElem?_eq_some_iff.mp hi).1
        have z2 := R.tab.sz
        rw [List.length_map] at z2
        rw [Array.length_toList] at z1
        omega
      obtain ⟨y, hy⟩ : ∃ y, as[i]? = some y := ⟨as[i], List.getElem?_eq_getElem il⟩
      have my := List.mem_of_getElem? hy
      have core : wpAny (model P w) A (searchRest S (.ref x) (th x) true f es t (way t.mask (th x) (c + q)) i (spot t (th x) (c + (q + 1)))) Q E s := by
        unfold searchRest
        rw [R.at hy]
        dsimp only
        refine wpAny_bind (wpAny_holding (L.eq A E s _ y x (R.tt y my) tx hx0 hu ?_))
        refine wpAny_bind (wpAny_setState_of ho hd R.fits ?_)
        cases hs : same y x with
        | true =>
          refine wp_if_pos (by simp) ?_
          exact wpAny_pure (yes ⟨y, my, hs⟩)
        | false =>
          refine wp_if_neg (by simp) ?_
          try refine wpAny_bind (wpAny_pure ?_)
          have live : t.slot (way t.mask (th x) (c + q)) = .live i := slot_live R.tab.ris hi
          rw [sameMem]
          dsimp only
          simp only [if_true, live, R.at hy]
          refine wpAny_bind (wpAny_isSame_ref_self (wpAny_bind (wpAny_pure ?_)))
          simp only [if_true]
          refine wp_if_neg (by simp) ?_
          refine ih (c + (q + 1)) _ rfl (by omega) (by omega) fun i1 y1 e1 s1 => ?_
          obtain ⟨c1, k1, k2, k3⟩ := left i1 y1 e1 s1
          refine ⟨c1, ?_, k2, k3⟩
          have hh1 : th y1 = th x := L.cong _ _ (R.tt y1 (List.mem_of_getElem? e1)) tx s1
          by_cases lt : c1 < c + q
          · have z := early (c1 - c) i1 (by omega) (by rw [show c + (c1 - c) = c1 by omega]; exact k3)
            rw [hAt i1 y1 e1] at z
            exact absurd hh1 z
          · by_cases eq : c1 = c + q
            · rw [eq] at k3
              have z := slot_live R.tab.ris k3
              rw [live] at z
              injection z with z
              rw [← z, hy] at e1
              cases e1
              rw [hs] at s1
              cases s1
            · omega
      by_cases hl : t.led = true
      · refine wp_if_neg (by simp [hl]) ?_
        try refine wpAny_bind (wpAny_pure ?_)
        exact core
      · refine wp_if_pos (by simp [hl]) ?_
        refine wpAny_bind (L.calm A E s _ x _ tx (fun v hv => ?_) hx0 ?_)
        · obtain ⟨e, he, rfl⟩ := List.mem_map.mp hv
          have he2 : e ∈ es.toList := by
            have z : e ∈ es ∧ e.1 = th x := by simpa using he
            simpa using z.1
          rw [R.rows] at he2
          obtain ⟨b, hb, rfl⟩ := List.mem_map.mp he2
          exact ⟨b, rfl, R.tt b hb⟩
        · refine wp_if_neg (by decide) ?_
          try refine wpAny_bind (wpAny_pure ?_)
          exact core
    · have pr' : t.probe (fun i => (es[i]?.map (·.1)).getD 0) (th x) (st.getD (t.probeStart (th x))) = some (.empty (way t.mask (th x) K) none) := by
        rw [hst]
        rw [show c + (K - c) = K by omega] at pr
        exact pr
      rw [pr']
      dsimp only
      refine wpAny_pure (no fun y my => ?_)
      cases hs : same y x with
      | false => rfl
      | true =>
        obtain ⟨i, hi, e⟩ := List.getElem_of_mem my
        have e1 : as[i]? = some y := by rw [List.getElem?_eq_getElem hi, e]
        obtain ⟨c1, k1, k2, k3⟩ := left i y e1 hs
        have z := early (c1 - c) i (by omega) (by rw [show c + (c1 - c) = c1 by omega]; exact k3)
        rw [hAt i y e1] at z
        exact absurd (L.cong _ _ (R.tt y my) tx hs) z
/-- a search, whole -/
theorem find_ok (L : El P w h0 T same th) (R : Hold w T same th s.heap S as es ep t) (hx0 : Ext h0 s.heap) {x : Addr} (tx : T x) (hu : A.units < cLine) {Q : SetFound → Shared → Prop} (yes : (∃ y ∈ as, same y x = true) → Q (.there none) s)
    (no : ∀ K, (∀ y ∈ as, same y x = false) → way t.mask (th x) K ∉ t.place.toList → (∀ c, c < K → way t.mask (th x) c ∈ t.place.toList) → Q (.free (way t.mask (th x) K) false) s) :
    wpAny (model P w) A (setSearch S (.ref x) (th x) true) Q E s := by
  obtain ⟨K, hK, free, full⟩ := R.tab.first (by rw [List.length_map]; have := R.room; omega) (th x)
  have few : 10 * SetTable.turns t.mask ≤ 1420 := by
    unfold SetTable.turns
    rcases R.tab.mok with e | e | e <;> omega
  unfold setSearch
  refine find_go L R hx0 tx hu hK free full yes (fun z => no K z free full) 100000 0 none rfl (Nat.zero_le _) (by omega) fun i y e s1 => ?_
  have il : i < t.place.toList.length := by
    have := (List.getElem?_eq_some_iff.mp e).1
    have z := R.tab.sz
    rw [List.length_map] at z
    rw [Array.length_toList]
    omega
  have hj := List.getElem?_eq_getElem il
  have hi : (as.map th)[i]? = some (th x) := by rw [List.getElem?_map, e, ← L.cong _ _ (R.tt y (List.mem_of_getElem? e)) tx s1]; rfl
  obtain ⟨c, hc, ec⟩ := R.tab.before free hi hj
  exact ⟨c, Nat.zero_le _, hc, by rw [hj, ec]⟩
end
end Bs
namespace Bs
open PySem PySem.Spec PyProof.Rows L2
theorem pick_all {α : Type} : ∀ l : List α, (List.range l.length).filterMap (fun i => l[i]?) = l
  | [] => rfl
  | a :: l => by
    have e : (List.range l.length).filterMap ((fun i => (a :: l)[i]?) ∘ Nat.succ) = l := pick_all l
    rw [List.length_cons, List.range_succ_eq_map, List.filterMap_cons_some (f := fun i => (a :: l)[i]?) (b := a) (a := 0) rfl, List.filterMap_map, e]
theorem pick_map {α : Type} {n : Nat} {l : List α} {g : α → Int} {hs : Array Int} (hl : hs.toList = l.map g) : ∀ ix : List Nat, (∀ i ∈ ix, i < l.length) → ix.map (fun i => hs.getD i 0) = (ix.filterMap fun i => l[i]?).map g
  | [], _ => rfl
  | i :: ix, h => by
    have hi := h i List.mem_cons_self
    have e : l[i]? = some l[i] := List.getElem?_eq_getElem hi
    have e2 : hs[i]? = some (g l[i]) := by rw [← Array.getElem?_toList, hl, List.getElem?_map, e]; rfl
    rw [List.filterMap_cons_some e, List.map_cons, List.map_cons, pick_map (n := n) hl ix fun j hj => h j (List.mem_cons_of_mem _ hj)]
    simp [Array.getD_eq_getD_getElem?, e2]
section
variable {P : Program} {w : World} {h0 : Heap} {T : Addr → Prop} {same : Addr → Addr → Bool} {th : Addr → Int} {A : Around} {E : Value → Shared → Prop} {s : Shared} {S : Addr} {as : List Addr} {es : Array (Int × Value)} {ep : Nat} {t : SetTable}
theorem apart_perm (L : El P w h0 T same th) {l l' : List Addr} (p : l'.Perm l) (h : l.Pairwise fun a b => same a b = false) : l'.Pairwise fun a b => same a b = false :=
  (p.pairwise_iff (fun {a b} z => by
    cases q : same b a with
    | false => rfl
    | true => rw [L.symm _ _ q] at z; cases z)).mpr h
/-- the table is laid anew -/
theorem relay_ok (L : El P w h0 T same th) {o : Obj} (ho : s.heap.get? S = some o) (hex : o.ExactSet) (hd : o.data = .set es ep t) (rows : es.toList = as.map fun a => (th a, Value.ref a)) (tab : TabOk t (as.map th)) (fl : as.length ≤ t.mask)
    (apart : as.Pairwise fun a b => same a b = false) (tt : ∀ a ∈ as, T a) (ld : w.params.followText "set-order" = true ∨ t.led = true) (few : as.length < 64) {wanted M : Nat} (hw : SetTable.sizeAbove wanted - 1 = M) (hM : MaskOk M) (hw2 : SetTable.sizeAbove wanted ≤ 128)
    (hn : as.length * 5 < M * 3) {Q : Unit → Shared → Prop} (hQ : ∀ h' as' es' ep' t', Heap.SameBut S s.heap h' → Hold w T same th h' S as' es' ep' t' → as'.Perm as → Q () { s with heap := h' }) : wpAny (model P w) A (setRelay S wanted) Q E s := by
  have sz : es.size = as.length := by rw [← Array.length_toList, rows, List.length_map]
  have ps : t.place.size = as.length := by have := tab.sz; rwa [List.length_map] at this
  have fits : t.fits es.size = true := by
    simp only [SetTable.fits, SetTable.fill, tab.dm, Bool.and_eq_true, beq_iff_eq, decide_eq_true_eq]
    exact ⟨by omega, by show t.place.size + 0 ≤ t.mask; omega⟩
  have hsl : (es.map (·.1)).toList = as.map th := by rw [Array.toList_map, rows, List.map_map]; rfl
  obtain ⟨t', order, e, pm, T', em, el, ep1, ed⟩ := relaid_ok t (hs := es.map (·.1)) (wanted := wanted) hw hM (by rw [Array.size_map, sz]; omega)
  rw [Array.size_map, sz] at pm
  have inr : ∀ i ∈ order.toList, i < as.length := fun i hi => List.mem_range.mp (pm.mem_iff.mp hi)
  rw [pick_map (n := 0) hsl order.toList inr] at T'
  have pas : (order.toList.filterMap fun i => as[i]?).Perm as := by
    have z := pm.filterMap fun i => as[i]?
    rwa [pick_all] at z
  have prows : (order.filterMap (es[·]?)).toList = (order.toList.filterMap fun i => as[i]?).map fun a => (th a, Value.ref a) := by
    rw [Array.toList_filterMap, List.map_filterMap]
    congr 1
    funext i
    rw [← Array.getElem?_toList, rows, List.getElem?_map]
  generalize order.toList.filterMap (fun i => as[i]?) = as2 at T' pas prows
  have sz2 : (order.filterMap (es[·]?)).size = es.size := by rw [← Array.length_toList, prows, List.length_map, pas.length_eq, sz]
  rw [setRelay_eq]
  refine wpAny_bind (wpAny_setState_of ho hd fits ?_)
  dsimp only
  refine wp_if_neg (by rw [sizeLine_eq]; omega) ?_
  try refine wpAny_bind (wpAny_pure ?_)
  rw [e]
  dsimp only
  refine wpAny_bind ?_
  refine wp_if_neg (by rw [sz2]; simp) ?_
  try refine wpAny_bind (wpAny_pure ?_)
  refine wpAny_pure ?_
  dsimp only
  refine wpAny_storeSet_of ho hd ?_ (by rw [sz2, sz, sizeLine_eq]; omega)
  exact hQ _ as2 _ (ep + 1) t' (Heap.SameBut.update ..) ⟨⟨_, store_at ho hd, ⟨hex.1, hex.2.1, hex.2.2⟩, rfl⟩, prows, T', apart_perm L pas apart, fun a ha => tt a (pas.mem_iff.mp ha), by rw [el]; exact ld, by rw [pas.length_eq, em]; exact hn, by rw [pas.length_eq]; exact few⟩ pas
/-- a place was found: the object is laid there -/
theorem lay_ok (L : El P w h0 T same th) (R : Hold w T same th s.heap S as es ep t) {x : Addr} (tx : T x) (new : ∀ y ∈ as, same y x = false) (room : as.length + 1 < 64) {t2 : SetTable} {p : Nat} (tab : TabOk t2 ((as.map th).take p ++ th x :: (as.map th).drop p)) (hm : t2.mask = t.mask) (hl : t2.led = t.led)
    (hf : t2.fill = as.length + 1) {Q : Bool → Shared → Prop} (hQ : ∀ b h' as' es' ep' t', Heap.SameBut S s.heap h' → Hold w T same th h' S as' es' ep' t' → as'.Perm (x :: as) → Q b { s with heap := h' }) :
    wpAny (model P w) A (do
      storeSet S (SetTable.insertAt es p (th x, Value.ref x)) t2
      if !false && t2.tooFull then setRelay S (SetTable.grown (es.size + 1))
      return true) Q E s := by
  obtain ⟨o, ho, hex, hd⟩ := R.ob
  have hsz := R.size
  have hrm := R.room
  have pm : (as.take p ++ x :: as.drop p).Perm (x :: as) := by
    have z : (as.take p ++ x :: as.drop p).Perm (x :: (as.take p ++ as.drop p)) := List.perm_middle
    rwa [List.take_append_drop] at z
  have rows1 : (SetTable.insertAt es p (th x, Value.ref x)).toList = (as.take p ++ x :: as.drop p).map fun a => (th a, Value.ref a) := by
    rw [SetTable.toList_insertAt, R.rows, List.map_append, List.map_cons, List.map_take, List.map_drop]
  have tab1 : TabOk t2 ((as.take p ++ x :: as.drop p).map th) := by
    rw [List.map_append, List.map_cons, List.map_take, List.map_drop]
    exact tab
  have ap1 : (as.take p ++ x :: as.drop p).Pairwise fun a b => same a b = false := by
    refine apart_perm L pm (List.pairwise_cons.mpr ⟨fun y hy => ?_, R.apart⟩)
    cases z : same x y with
    | false => rfl
    | true => rw [← new y hy, L.symm _ _ z]
  have tt1 : ∀ a ∈ as.take p ++ x :: as.drop p, T a := fun a ha => by
    rcases List.mem_cons.mp (pm.mem_iff.mp ha) with z | z
    · rw [z]; exact tx
    · exact R.tt a z
  have len1 := pm.length_eq
  rw [List.length_cons] at len1
  generalize as.take p ++ x :: as.drop p = as1 at pm rows1 tab1 ap1 tt1 len1
  have sz1 : (SetTable.insertAt es p (th x, Value.ref x)).size = as1.length := by rw [← Array.length_toList, rows1, List.length_map]
  generalize SetTable.insertAt es p (th x, Value.ref x) = es1 at rows1 sz1 ⊢
  refine wpAny_bind (wpAny_storeSet_of ho hd ?_ (by rw [sz1, sizeLine_eq]; omega))
  have sb : Heap.SameBut S s.heap (s.heap.update S (Obj.putSet es1 t2)) := Heap.SameBut.update ..
  have ho1 := store_at (es' := es1) (t' := t2) ho hd
  generalize s.heap.update S (Obj.putSet es1 t2) = h1 at sb ho1 ⊢
  have ld1 : w.params.followText "set-order" = true ∨ t2.led = true := by rw [hl]; exact R.led
  have full : t2.tooFull = decide ((as.length + 1) * 5 ≥ t2.mask * 3) := by unfold SetTable.tooFull; rw [hf]
  by_cases hfu : t2.tooFull = true
  · first
      | (refine wpAny_bind ?_; refine wp_if_pos (by simp [hfu]) ?_)
      | (refine wp_if_pos (by simp [hfu]) ?_; refine wpAny_bind ?_)
    have fu : (as.length + 1) * 5 ≥ t2.mask * 3 := by rwa [full, decide_eq_true_eq] at hfu
    have grow : ∀ M, SetTable.sizeAbove (SetTable.grown (as.length + 1)) - 1 = M → MaskOk M → SetTable.sizeAbove (SetTable.grown (as.length + 1)) ≤ 128 → (as.length + 1) * 5 < M * 3 → as.length + 1 ≤ t2.mask →
        wpAny (model P w) A (setRelay S (SetTable.grown (as.length + 1))) (fun _ s' => wpAny (model P w) A (pure true) Q E s') E { s with heap := h1 } := fun M g1 g2 g3 g4 g5 =>
      relay_ok (s := { s with heap := h1 }) L ho1 ⟨hex.1, hex.2.1, hex.2.2⟩ rfl rows1 tab1 (by omega) ap1 tt1 ld1 (by omega) g1 g2 g3 (by rw [len1]; exact g4) fun h2 as2 es2 ep2 t3 sb2 R2 pm2 =>
        wpAny_pure (hQ true h2 as2 es2 ep2 t3 (sb.trans sb2) R2 (pm2.trans pm))
    rw [hsz]
    rcases R.tab.mok with m | m | m
    · have e4 : as.length = 4 := by rw [hm, m] at fu; rw [m] at hrm; omega
      exact grow 31 (by rw [e4, size_20]) (.inr (.inl rfl)) (by rw [e4, size_20]; decide) (by omega) (by rw [hm, m]; omega)
    · have e4 : as.length = 18 := by rw [hm, m] at fu; rw [m] at hrm; omega
      exact grow 127 (by rw [e4, size_76]) (.inr (.inr rfl)) (by rw [e4, size_76]; decide) (by omega) (by rw [hm, m]; omega)
    · exfalso
      rw [hm, m] at fu
      omega
  · first
      | refine wp_if_neg (by simp [hfu]) ?_
      | (refine wpAny_bind ?_; refine wp_if_neg (by simp [hfu]) ?_; refine wpAny_pure ?_)
    refine wpAny_pure (hQ true h1 as1 es1 (ep + 1) t2 sb ⟨⟨_, ho1, ⟨hex.1, hex.2.1, hex.2.2⟩, rfl⟩, rows1, tab1, ap1, tt1, ld1, ?_, by omega⟩ pm)
    rw [full, decide_eq_true_eq] at hfu
    rw [len1]
    omega
/-- one object more -/
theorem add_ok (L : El P w h0 T same th) (R : Hold w T same th s.heap S as es ep t) (hx0 : Ext h0 s.heap) {x : Addr} (tx : T x) (hu : A.units < cLine) (room : as.length + 1 < 64) {Q : Bool → Shared → Prop}
    (hQ : ∀ b h' as' es' ep' t', Heap.SameBut S s.heap h' → Hold w T same th h' S as' es' ep' t' → ((∃ y ∈ as, same y x = true) ∧ as' = as ∨ as'.Perm (x :: as)) → Q b { s with heap := h' }) :
    wpAny (model P w) A (setAddHashed S (.ref x) (th x)) Q E s := by
  obtain ⟨o, ho, hex, hd⟩ := R.ob
  unfold setAddHashed
  refine wpAny_holding ?_
  rw [show (100000 : Nat) = 99999 + 1 from rfl, setAddHashedIn_succ]
  refine wpAny_bind (wpAny_setState_of ho hd R.fits ?_)
  dsimp only
  refine wp_if_neg (by simp [byScan, Value.scannable]) ?_
  try refine wpAny_bind (wpAny_pure ?_)
  refine wpAny_bind (find_ok L R hx0 tx hu (fun hm => ?_) fun K hm free full => ?_)
  · dsimp only
    exact wpAny_pure (hQ false s.heap as es ep t (Heap.SameBut.refl S s.heap) R (.inl ⟨hm, rfl⟩))
  · dsimp only
    refine wpAny_bind (wpAny_setState_of ho hd R.fits ?_)
    dsimp only
    obtain ⟨q1, q2, q3, q4, q5, q6, q7, q8, q9⟩ := R.tab.put free full
    rw [List.length_map] at q9
    generalize t.put (way t.mask (th x) K) = pt at q1 q3 q4 q5 q6 q7 q8 q9 ⊢
    obtain ⟨t1, p0⟩ := pt
    dsimp only at q1 q3 q4 q5 q6 q7 q8 q9 ⊢
    subst q1
    have go := fun (t2 : SetTable) tab hm2 hl2 hf2 => lay_ok (A := A) (E := E) (s := s) (Q := Q) (t2 := t2) (p := SetTable.below t.place (way t.mask (th x) K)) L R tx hm room tab hm2 hl2 hf2 fun b h' as' es' ep' t' sb R' pm => hQ b h' as' es' ep' t' sb R' (.inr pm)
    by_cases hp : t1.plain = true
    · first
        | (refine wpAny_bind ?_; refine wp_if_pos hp ?_; refine L.byv A E s _ x tx hx0 fun b => ?_)
        | refine wp_if_pos hp (wpAny_bind (L.byv A E s _ x tx hx0 fun b => ?_))
      cases b with
      | true => exact go t1 q3 q4 q5 q9
      | false => exact go { t1 with plain := false } ⟨q3.ris, q3.dm, q3.sz, q3.mok, q3.bd, q3.reach⟩ q4 q5 q9
    · first
        | (refine wpAny_bind ?_; refine wp_if_neg hp ?_; refine wpAny_pure ?_)
        | refine wp_if_neg hp (wpAny_bind (wpAny_pure ?_))
        | refine wp_if_neg hp ?_
      exact go t1 q3 q4 q5 q9
end
end Bs
namespace Bs
open PySem PySem.Spec PyProof.Rows L2
/-- as stands for the first i of xs: some of them, and of each one the same -/
structure Upto (same : Addr → Addr → Bool) (xs : List Addr) (i : Nat) (as : List Addr) : Prop where
  sub : ∀ a ∈ as, a ∈ xs
  each : ∀ (j : Nat) (x : Addr), j < i → xs[j]? = some x → ∃ a ∈ as, same a x = true
  few : as.length ≤ i
section
variable {P : Program} {w : World} {h0 : Heap} {T : Addr → Prop} {same : Addr → Addr → Bool} {th : Addr → Int} {A : Around} {E : Value → Shared → Prop} {s : Shared} {S : Addr}
theorem Hold.other {h h' : Heap} {as : List Addr} {es : Array (Int × Value)} {ep : Nat} {t : SetTable} (R : Hold w T same th h S as es ep t) (k : ∀ o, h.get? S = some o → h'.get? S = some o) : Hold w T same th h' S as es ep t :=
  let ⟨o, ho, r⟩ := R.ob
  ⟨⟨o, k o ho, r⟩, R.rows, R.tab, R.apart, R.tt, R.led, R.room, R.few⟩
theorem hold_new {h : Heap} (ho : h.get? S = some { cls := .type "set", dict := none, data := .set #[] 0 (.fresh 0 0 (!w.params.followText "set-order")) }) : Hold w T same th h S [] #[] 0 (.fresh 0 0 (!w.params.followText "set-order")) where
  ob := ⟨_, ho, ⟨rfl, rfl, rfl⟩, rfl⟩
  rows := rfl
  tab := ⟨List.Pairwise.nil, rfl, rfl, .inl rfl, fun x hx => (by cases hx), fun i h j hi => (by simp at hi)⟩
  apart := .nil
  tt := fun a ha => nomatch ha
  led := by
    by_cases q : w.params.followText "set-order" = true
    · exact .inl q
    · exact .inr (by show (!w.params.followText "set-order") = true; rw [Bool.not_eq_true] at q; rw [q]; rfl)
  room := by show 0 * 5 < 7 * 3; decide
  few := by show 0 < 64; decide
theorem fill_ok (L : El P w h0 T same th) {I : Addr} {fp wr : List Addr} {G : Array GenState → Array GenState → Prop} {xs : List Addr} {Pv : Nat → Value → Prop} {St : Nat → Shared → Prop} {R : Result → Shared → Prop} (Wk : WalksS P w A.in1 I fp wr G xs.length Pv St) (hSf : S ∉ fp) (few : xs.length < 64)
    (val : ∀ i v, Pv i v → ∃ x, xs[i]? = some x ∧ v = .ref x) (tx : ∀ x ∈ xs, T x) (refl : ∀ x, same x x = true) (hS0 : h0.get? S = none) (hw0 : ∀ b ∈ wr, h0.get? b = none) (hu : A.in1.units < cLine)
    (fin : ∀ s0 s' as es ep t, Moved (S :: wr) G s0 s' → Hold w T same th s'.heap S as es ep t → Upto same xs xs.length as → Ext h0 s'.heap → s0 = s → R (.ok (.ret .none)) s') :
    ∀ (k i : Nat) (s1 : Shared), xs.length - i = k → i ≤ xs.length → St i s1 → Ext h0 s1.heap → Moved (S :: wr) G s s1 → (∃ as es ep t, Hold w T same th s1.heap S as es ep t ∧ Upto same xs i as) →
      codeAny (model P w) A (.builtin "set.update.loop" ⟨[.ref S, .ref I], []⟩) R s1 := by
  have sw : S ∉ wr := fun z => hSf (Wk.sub _ z)
  have wide : ∀ b ∈ wr, b ∈ S :: wr := fun b hb => List.mem_cons_of_mem _ hb
  have step : ∀ {a b : Shared}, Moved wr G a b → Ext h0 a.heap → Ext h0 b.heap := fun m x c o e => m.heap c o (fun z => by rw [hw0 c z] at e; cases e) (x c o e)
  intro k
  induction k with
  | zero =>
    rintro i s1 hk hi st x m ⟨as, es, ep, t, Hd, U⟩
    obtain rfl : i = xs.length := by omega
    refine codeAny_builtin F.entry_set_update_loop ?_
    rw [Around.under_plainId F.plain_set_update_loop _]
    show wpAny _ A.in1 (pyNext (.ref I) >>= _) _ _ s1
    refine wpAny_bind (Wk.done s1 _ _ st fun s' m' => ?_)
    exact wpAny_pure (fin s s' as es ep t (Moved.trans Wk.gtrans m (m'.mono wide)) (Hd.other fun o e => m'.heap S o sw e) U (step m' x) rfl)
  | succ k ih =>
    rintro i s1 hk hi st x m ⟨as, es, ep, t, Hd, U⟩
    have lt : i < xs.length := by omega
    refine codeAny_builtin F.entry_set_update_loop ?_
    rw [Around.under_plainId F.plain_set_update_loop _]
    show wpAny _ A.in1 (pyNext (.ref I) >>= _) _ _ s1
    refine wpAny_bind (Wk.item i s1 _ _ lt st fun v s' hv st' m' => ?_)
    obtain ⟨y, hy, rfl⟩ := val i v hv
    have ty := tx y (List.mem_of_getElem? hy)
    have x' := step m' x
    have Hd' : Hold w T same th s'.heap S as es ep t := Hd.other fun o e => m'.heap S o sw e
    show wpAny _ A.in1 (holding [Value.ref y] (setAdd S (.ref y)) >>= _) _ _ s'
    refine wpAny_bind (wpAny_holding ?_)
    unfold setAdd
    refine wpAny_holding ?_
    refine wpAny_bind (L.hash A.in1 _ s' _ y ty x' hu fun tk htk => ?_)
    refine add_ok (s := { s' with toks := tk }) L Hd' x' ty hu (by have := U.few; omega) fun b h' as' es' ep' t' sb Hd2 how => ?_
    have U' : Upto same xs (i + 1) as' := by
      rcases how with ⟨⟨z, hz, sz⟩, rfl⟩ | pm
      · refine ⟨U.sub, fun j q hj e => ?_, by have := U.few; omega⟩
        by_cases c : j = i
        · subst c
          rw [hy] at e
          cases e
          exact ⟨z, hz, sz⟩
        · exact U.each j q (by omega) e
      · refine ⟨fun a ha => ?_, fun j q hj e => ?_, by rw [pm.length_eq, List.length_cons]; have := U.few; omega⟩
        · rcases List.mem_cons.mp (pm.mem_iff.mp ha) with z | z
          · rw [z]; exact List.mem_of_getElem? hy
          · exact U.sub a z
        · by_cases c : j = i
          · subst c
            rw [hy] at e
            cases e
            exact ⟨y, pm.mem_iff.mpr List.mem_cons_self, refl y⟩
          · obtain ⟨a, ha, sa⟩ := U.each j q (by omega) e
            exact ⟨a, pm.mem_iff.mpr (List.mem_cons_of_mem _ ha), sa⟩
    have x2 : Ext h0 h' := fun c o e => (sb.2 c fun z => by rw [z, hS0] at e; cases e).trans (x' c o e)
    refine wpAny_pure ⟨plainId_quiet F.plain_set_update_loop _, ih (i + 1) _ (by omega) lt (Wk.frame _ s' _ _ st' htk fun c hc o e => ?_) x2 ?_ ⟨as', es', ep', t', Hd2, U'⟩⟩
    · rw [sb.2 c fun z => hSf (z ▸ hc)]
      exact e
    · refine Moved.trans Wk.gtrans m ((m'.mono wide).then_heap htk fun c o hc e => ?_)
      rw [sb.2 c fun z => hc (by rw [z]; exact List.mem_cons_self)]
      exact e
set_option maxHeartbeats 3200000 in
/-- set(xs) -/
theorem call_set {l : Addr} {items : Array Value} {xs : List Addr} (L : El P w s.heap T same th) {Q : Value → Shared → Prop} (hh : A.handled = none) (hl : s.heap.IsList l items) (hit : items.toList = xs.map Value.ref) (tx : ∀ x ∈ xs, T x) (refl : ∀ x, same x x = true) (few : xs.length < 64) (hu : A.units + 3 < cLine)
    (h : ∀ (h' : Heap) (tk : Nat) as es ep t, Hold w T same th h' s.heap.objs.size as es ep t → Upto same xs xs.length as → Ext s.heap h' → Q (.ref s.heap.objs.size) { s with heap := h', toks := tk }) :
    wpAny (model P w) A (call (.type "set") [.ref l]) Q E s := by
  have isz : items.size = xs.length := by rw [← Array.length_toList, hit, List.length_map]
  have ns : ∀ b, s.heap.objs.size ≤ b → s.heap.get? b = none := fun b hb => by
    cases q : s.heap.get? b with
    | none => rfl
    | some o => exact absurd (Heap.lt_size q) (Nat.not_lt.mpr hb)
  obtain ⟨c, tl, hmro⟩ := F.called_set.mro
  have k1 := F.called_set.made
  have k2 := F.called_set.sub
  have k3 := F.called_set.notType
  have k4 := F.called_set.canCreate
  have k5 := F.typeCall_set_1 (.ref l)
  refine wpAny_call (codeAny_of_tree ?_)
  show wpAny _ _ (callAny (.type "set") _) _ _ _
  refine wpAny_pure ⟨Code.quiet_builtin _ (by decide +kernel), codeAny_builtin F.entry_type_call ?_⟩
  rw [Around.under_plain (weight_type_call_type "set" [.ref l] []) rfl]
  repeat (any_goals (first | assumption | wp_step))
  generalize hob : ({ cls := .type "set", dict := none, data := .set #[] 0 (.fresh 0 0 (!w.params.followText "set-order")) } : Obj) = ob
  refine codeAny_mono (code_set_led1 (.ref l) (E := E) (Q₁ := fun v s1 => v = .ref s.heap.objs.size ∧ s1 = { s with heap := s.heap.push ob }) ⟨rfl, by rw [hob]⟩) fun r s1 hr => ?_
  cases r with
  | error e => exact hr
  | ok fl =>
    cases fl with
    | ret v =>
      obtain ⟨rfl, rfl⟩ := hr
      have nf : ob.isFreed = false := by rw [← hob]; rfl
      have atS : (s.heap.push ob).get? s.heap.objs.size = some ob := Heap.get?_push_size _ nf
      have hT : Shared.TypeIs { s with heap := s.heap.push ob } (.ref s.heap.objs.size) "set" := ⟨_, atS, by rw [← hob]⟩
      have k6 := F.called_set.init.lookup
      have k7 := F.called_set.init.bind (.ref s.heap.objs.size)
      repeat (any_goals (first | assumption | wp_step))
      refine codeAny_mono (codeAny_call_builtin (R := wants (fun r s2 => r = .none ∧ ∃ h' tk as es ep t, s2 = { s with heap := h', toks := tk } ∧ Hold w T same th h' s.heap.objs.size as es ep t ∧ Upto same xs xs.length as ∧ Ext s.heap h') E) F.called_set.init.plain F.entry_set_init (check_set_init_1 hT ?_)) fun r2 s2 hr2 => ?_
      · subst hob
        obtain ⟨⟨oc, od, odt, osl⟩, hol, hcl, nl, hdl⟩ := hl
        simp only at hcl hdl
        subst hcl hdl
        have lS : l < s.heap.objs.size := Heap.lt_size hol
        have hol1 := Heap.get?_push_of_some { cls := .type "set", dict := none, data := .set #[] 0 (.fresh 0 0 (!w.params.followText "set-order")) } hol
        have hl1 : (s.heap.push { cls := .type "set", dict := none, data := .set #[] 0 (.fresh 0 0 (!w.params.followText "set-order")) }).IsList l items := ⟨_, hol1, rfl, nl, rfl⟩
        have k8 := F.sub_list_set
        have k9 := F.sub_list_frozenset
        have k10 : (Value.type "list" == Value.type "dict") = false := by decide
        unfold Builtin.«set.__init__» noKeywords Builtin.Frozenset.updateFrom
        generalize hPI : pyIter = PI
        wp_walk
        subst hPI
        refine wpAny_pyIter_list hl1 ?_
        refine wpAny_bind (wpAny_runValue ?_)
        generalize hob : ({ cls := .type "set", dict := none, data := .set #[] 0 (.fresh 0 0 (!w.params.followText "set-order")) } : Obj) = ob at atS hol1 hl1 ⊢
        have sz1 : (s.heap.push ob).objs.size = s.heap.objs.size + 1 := Heap.size_push ..
        have ne : l ≠ (s.heap.push ob).objs.size := by rw [sz1]; exact Nat.ne_of_lt (Nat.lt_succ_of_lt lS)
        have notin : s.heap.objs.size ∉ [(s.heap.push ob).objs.size, l] := by
          rw [sz1]
          simp only [List.mem_cons, List.not_mem_nil, or_false, not_or]
          exact ⟨Nat.ne_of_lt (Nat.lt_succ_self _), Nat.ne_of_gt lS⟩
        have Wk := (Walks.list (prog := P) (w := w) (show A.in1.in1.in1.handled = none by simp [hh]) _ l ne items).toS
        rw [isz] at Wk
        refine fill_ok L Wk notin few (fun i v hv => ?_) tx refl (ns _ (Nat.le_refl _)) (fun b hb => ns b ?_) hu (fun s0 s' as es ep t m Hd U x e0 => ?_) xs.length 0 _ (by omega) (Nat.zero_le _) ⟨⟨_, Heap.get?_push_size _ rfl, rfl, rfl⟩, hl1.push _⟩ (fun b o e => Heap.get?_push_of_some _ (Heap.get?_push_of_some _ e)) (Moved.refl Wk.grefl) ⟨[], #[], 0, _, hold_new (by
          rw [hob]
          exact Heap.get?_push_of_some _ atS), ⟨fun a ha => (by cases ha), fun j q hj => absurd hj (Nat.not_lt_zero _), Nat.le_refl _⟩⟩
        · have q : items.toList[i]? = some v := by rw [Array.getElem?_toList]; exact hv
          rw [hit, List.getElem?_map, Option.map_eq_some_iff] at q
          obtain ⟨y, e1, rfl⟩ := q
          exact ⟨y, e1, rfl⟩
        · rw [List.mem_singleton.mp hb, sz1]
          exact Nat.le_succ _
        · subst e0
          obtain ⟨h', g', d', tk', os'⟩ := s'
          have e1 : g' = s.gens := m.gens
          have e2 : d' = s.drawn := m.drawn
          have e3 : os' = s.os := m.os
          subst e1 e2 e3
          show wpAny _ _ _ _ _ _
          refine wpAny_pure ?_
          show wpAny _ _ (ret Value.none) _ _ _
          exact wpAny_pure ⟨rfl, h', tk', as, es, ep, t, rfl, Hd, U, x⟩
      · cases r2 with
        | error e => exact hr2
        | ok fl2 =>
          cases fl2 with
          | ret r =>
            obtain ⟨rfl, h', tk, as, es, ep, t, rfl, Hd, U, x⟩ := hr2
            repeat (any_goals (first | assumption | wp_step))
            exact h h' tk as es ep t Hd U x
          | _ => exact hr2.elim
    | _ => exact hr.elim
end
end Bs
namespace Bs
open PySem PySem.Spec PyProof.Rows L2
section
variable {P : Program} {w : World} {A : Around} {E : Value → Shared → Prop} {s : Shared}
abbrev Tk (P : Program) (w : World) (h : Heap) (ks : List Key) (a : Addr) : Prop := IsTupleKey (mixKind P w) h ks a
theorem Tk.ext {h h' : Heap} {ks : List Key} {a : Addr} (x : Ext h h') (k : Tk P w h ks a) : Tk P w h' ks a := by
  obtain ⟨o, its, n, ho, r⟩ := k
  exact ⟨o, its, n, x a o ho, r⟩
/-- an int or a text -/
def Pln (v : Value) : Prop := (∃ i t, v = .int i t) ∨ ∃ x t, v = .str x t
theorem plns : ∀ {ks : List Key} {vs : List Value}, ItemsAre (mixKind P w) ks vs → ∀ v ∈ vs, Pln v
  | _, _, .nil, v, hv => by cases hv
  | _, _, .cons h1 t, v, hv => by
    rcases List.mem_cons.mp hv with e | hv
    · subst e
      rcases keyIs_shape h1 with ⟨i, tk, e1, _⟩ | ⟨x, tk, e1, _⟩
      · first | exact .inl ⟨i, tk, e1⟩ | exact .inl ⟨i, tk, by assumption⟩
      · first | exact .inr ⟨x, tk, e1⟩ | exact .inr ⟨x, tk, by assumption⟩
    · exact plns t v hv
theorem pln_cls {v : Value} (h : Pln v) (n : Nat) : ofAClassStatement n v = pure false := by
  rcases h with ⟨i, t, rfl⟩ | ⟨x, t, rfl⟩ <;> cases n <;> rfl
theorem pln_hash {v : Value} (h : Pln v) (n : Nat) : ∃ b, hashByValue n v = pure b := by
  rcases h with ⟨i, t, rfl⟩ | ⟨x, t, rfl⟩
  · exact ⟨true, by cases n <;> rfl⟩
  · exact ⟨false, by cases n <;> rfl⟩
theorem tk_cls {ks : List Key} {b : Addr} {Q : Bool → Shared → Prop} (k : Tk P w s.heap ks b) (h : Q false s) : wpAny (model P w) A (ofAClassStatement 8 (.ref b)) Q E s := by
  have hT := k.typeIs
  obtain ⟨o, its, n, ho, _, hd, hi⟩ := k
  unfold ofAClassStatement
  refine wpAny_bind (wpAny_typeOf hT ?_)
  dsimp only
  simp only [beq_self_eq_true, if_true]
  try refine wpAny_bind (wpAny_pure ?_)
  try simp only [Bool.not_true, Bool.false_eq_true, if_false]
  show wpAny _ _ (seqItems? (.ref b) >>= _) _ _ s
  refine wpAny_bind (wpAny_seqItems ho hd ?_)
  dsimp only
  refine wpAny_bind ?_
  show wpAny _ _ (forIn its _ _) _ _ s
  rw [← Array.forIn_toList]
  refine wpAny_forIn_list _ (fun rest r s' => r.1 = none ∧ s' = s ∧ ∀ v ∈ rest, Pln v) _ ?_ ?_ _ _ ⟨rfl, rfl, plns hi⟩
  · rintro v rest r s' ⟨hr, rfl, all⟩
    rw [pln_cls (all v List.mem_cons_self)]
    refine wpAny_bind (wpAny_pure ?_)
    simp only [Bool.false_eq_true, if_false]
    exact wpAny_pure ⟨rfl, rfl, fun u hu => all u (List.mem_cons_of_mem _ hu)⟩
  · rintro ⟨r1, r2⟩ s' ⟨hr, rfl, _⟩
    simp only at hr
    subst hr
    exact wpAny_pure h
theorem tk_byv {ks : List Key} {b : Addr} {Q : Bool → Shared → Prop} (k : Tk P w s.heap ks b) (h : ∀ c, Q c s) : wpAny (model P w) A (hashByValue 8 (.ref b)) Q E s := by
  have hT := k.typeIs
  obtain ⟨o, its, n, ho, _, hd, hi⟩ := k
  unfold hashByValue
  refine wpAny_bind (wpAny_specialOf hT F.slot_tuple_hash.lookup ?_)
  show wpAny _ _ (seqItems? (.ref b) >>= _) _ _ s
  refine wpAny_bind (wpAny_seqItems ho hd ?_)
  refine wpAny_bind ?_
  show wpAny _ _ (forIn its _ _) _ _ s
  rw [← Array.forIn_toList]
  refine wpAny_forIn_list _ (fun rest r s' => s' = s ∧ ∀ v ∈ rest, Pln v) _ ?_ ?_ _ _ ⟨rfl, plns hi⟩
  · rintro v rest r s' ⟨rfl, all⟩
    obtain ⟨c, e⟩ := pln_hash (all v List.mem_cons_self) 7
    rw [e]
    refine wpAny_bind (wpAny_pure ?_)
    cases c
    · simp only [Bool.not_false, if_true]
      exact wpAny_pure (wpAny_pure (h false))
    · simp only [Bool.not_true, Bool.false_eq_true, if_false]
      exact wpAny_pure ⟨rfl, fun u hu => all u (List.mem_cons_of_mem _ hu)⟩
  · rintro ⟨r1, r2⟩ s' ⟨rfl, _⟩
    cases r1 <;> exact wpAny_pure (h _)
theorem tk_calm {ks : List Key} {b : Addr} {Q : Bool → Shared → Prop} (k : Tk P w s.heap ks b) {ys : List Value} (hy : ∀ y ∈ ys, ∃ c ks', y = .ref c ∧ Tk P w s.heap ks' c) (h : Q false s) : wpAny (model P w) A (searchCouldBeSeen (.ref b) ys) Q E s := by
  unfold searchCouldBeSeen
  refine wpAny_bind ?_
  refine wpAny_forIn_list _ (fun rest r s' => r.1 = none ∧ s' = s ∧ ∀ y ∈ rest, ∃ c ks', y = Value.ref c ∧ Tk P w s.heap ks' c) _ ?_ ?_ _ _ ⟨rfl, rfl, hy⟩
  · rintro v rest r s' ⟨hr, rfl, all⟩
    obtain ⟨c, ks', rfl, kc⟩ := all v List.mem_cons_self
    have more : ∀ y ∈ rest, ∃ c ks', y = Value.ref c ∧ Tk P w s'.heap ks' c := fun u hu => all u (List.mem_cons_of_mem _ hu)
    dsimp only
    by_cases q : (b == c || (carriedByValue (.ref b) && carriedByValue (.ref c))) = true
    · exact wp_if_pos q (wpAny_pure ⟨rfl, rfl, more⟩)
    · refine wp_if_neg q (wpAny_bind (wpAny_eqIsQuiet_tuple k ?_))
      simp only [Bool.not_true, Bool.false_eq_true, if_false]
      refine wpAny_bind (wpAny_eqIsQuiet_tuple kc ?_)
      simp only [Bool.not_true, Bool.false_eq_true, if_false]
      refine wpAny_bind (tk_cls k ?_)
      simp only [Bool.false_eq_true, if_false]
      refine wpAny_bind (tk_cls kc ?_)
      simp only [Bool.false_eq_true, if_false]
      exact wpAny_pure ⟨rfl, rfl, more⟩
  · rintro ⟨r1, r2⟩ s' ⟨hr, rfl, _⟩
    simp only at hr
    subst hr
    exact wpAny_pure h
/-- kf tells each one's ints and texts -/
theorem el_tk (P : Program) (w : World) (h0 : Heap) (kf : Addr → List Key) : El P w h0 (fun a => Tk P w h0 (kf a) a) (fun a b => decide (kf a = kf b)) (fun a => tupleKeyHash (mixKind P w) (kf a)) where
  cong := fun a b _ _ e => congrArg _ (of_decide_eq_true e)
  trans := fun a b c x y => decide_eq_true ((of_decide_eq_true x).trans (of_decide_eq_true y))
  symm := fun a b x => decide_eq_true (of_decide_eq_true x).symm
  eq := fun A E s Q a b ta tb x hu q => wpAny_eqBool_tuple hu (ta.ext x) (tb.ext x) q
  calm := fun A E s Q x ys tx hy e q => tk_calm (Tk.ext e tx) (fun y h => let ⟨b, e1, tb⟩ := hy y h; ⟨b, _, e1, Tk.ext e tb⟩) q
  byv := fun A E s Q x tx e q => tk_byv (Tk.ext e tx) q
  hash := fun A E s Q x tx e hu q => wpAny_pyHash_tuple hu (Tk.ext e tx) (q _ (Nat.le_add_right _ _))
end
end Bs
namespace Bs
open PySem PySem.Spec PyProof.Rows L2
/-- the set at S has the objects bs -/
def SetP (w : World) (bs : List Addr) (S : Addr) (h : Heap) : Prop := ∃ (o : Obj) (es : Array (Int × Value)) (ep : Nat) (t : SetTable), h.get? S = some o ∧ o.ExactSet ∧ o.data = .set es ep t ∧ es.toList.map (·.2) = bs.map Value.ref ∧ t.fits es.size = true ∧ es.size < scanBound ∧ Ris t.place.toList ∧ (w.params.followText "set-order" = true ∨ t.led = true)
def SetO (w : World) (bs : List Addr) (S : Addr) : HO := .ext (SetP w bs S)
theorem setO_ok {P : Program} {w : World} {H : Hp} {h : Heap} {bs : List Addr} {S : Addr} (x : SetP w bs S h) : ObjOk P w H h S (SetO w bs S) := by
  have ⟨o, es, ep, t, ho, r⟩ := x
  refine ⟨x, ⟨o, ho⟩, fun h1 h2 p k => ?_⟩
  have ⟨o', es', ep', t', ho', r'⟩ : SetP w bs S h1 := p
  exact ⟨o', es', ep', t', k o' ho', r'⟩
def vKey : V → Option Key
  | .int i => some (.inl i)
  | .str x => some (.inr x)
  | _ => none
def kfH (H : Hp) (a : Addr) : List Key := match H a with
  | some (.tup vs) => vs.filterMap vKey
  | _ => []
theorem back_refs : ∀ {out : List Value} {bs : List Addr}, out.Perm (bs.map Value.ref) → ∃ bs' : List Addr, bs'.Perm bs ∧ out = bs'.map Value.ref := by
  intro out bs pm
  let inv : Value → Option Addr := fun v => match v with | .ref a => some a | _ => none
  have e1 : ∀ l : List Addr, (l.map Value.ref).filterMap inv = l := fun l => by
    induction l with
    | nil => rfl
    | cons a l ih => rw [List.map_cons, List.filterMap_cons_some (f := inv) (b := a) (a := Value.ref a) rfl, ih]
  have p2 := pm.filterMap inv
  rw [e1] at p2
  refine ⟨_, p2, ?_⟩
  have all : ∀ v ∈ out, ∃ a, v = Value.ref a := fun v hv => by
    obtain ⟨a, _, e⟩ := List.mem_map.mp (pm.mem_iff.mp hv)
    exact ⟨a, e.symm⟩
  clear pm p2
  induction out with
  | nil => rfl
  | cons v l ih =>
    obtain ⟨a, rfl⟩ := all v List.mem_cons_self
    rw [List.filterMap_cons_some (f := inv) (b := a) (a := Value.ref a) rfl, List.map_cons, ← ih fun u hu => all u (List.mem_cons_of_mem _ hu)]
theorem items_keys {P : Program} {w : World} : ∀ {ks : List Key} {us : List Value}, Vals (ks.map kV) us → ItemsAre (mixKind P w) ks us
  | [], _, .nil => .nil
  | k :: ks, _, .cons r t => .cons (kV_is r) (items_keys t)
theorem vals_refs : ∀ (as : List Addr), Vals (as.map V.ref) (as.map Value.ref)
  | [] => .nil
  | a :: as => .cons rfl (vals_refs as)
theorem refs_vals : ∀ {as : List Addr} {us : List Value}, Vals (as.map V.ref) us → us = as.map Value.ref
  | [], _, .nil => rfl
  | a :: as, _, .cons r t => by
    cases r
    rw [refs_vals t]
    rfl
def rowP (p : Int × Str) : PyData := .tuple [.int p.1, .str p.2]
section
variable {X : Cx}
/-- set(xs), xs a list of tuples of ints and texts that stand in H -/
def rSetK (K : PySem.W.Frag) (w : World) : List V → Hp → VK → Prop := fun xs H Q => ∃ (l : Addr) (as : List Addr), xs = [V.ref l] ∧ SqL K H l (as.map V.ref) ∧ (∀ a ∈ as, H a = some (.tup ((kfH H a).map kV))) ∧ as.length < 64 ∧
  ∀ S bs, H S = none → (∀ b ∈ bs, b ∈ as) → (∀ a ∈ as, ∃ b ∈ bs, kfH H b = kfH H a) → (bs.Pairwise fun a b => kfH H a ≠ kfH H b) → bs.length ≤ as.length → Q (.ref S) (upd H S (SetO w bs S))
theorem cr_setK (hc : X.calm = true) (hu : X.A.units + 64 < cLine) : CallR X (.type "set") (rSetK X.K X.w) := by
  intro pins s σ H xs us Q I r h
  obtain ⟨l, as, rfl, hl, ht, few, q⟩ := h
  rw [Vals.ref1 r]
  obtain ⟨its, rv, pl, hz⟩ := I.list hl
  have hn : H s.heap.objs.size = none := I.hok.fresh (Nat.le_refl _)
  have tk : ∀ a ∈ as, Tk X.prog X.w s.heap (kfH H a) a := fun a ha => by
    obtain ⟨its, r, ⟨o, ho, hc, n, hd⟩, _⟩ := I.tuple (.inl (.inl (ht a ha)))
    exact ⟨o, its.toArray, n, ho, hc, hd, by simpa using items_keys r⟩
  refine call_set (el_tk X.prog X.w s.heap (kfH H)) (I.ok.hd hc) pl.isList (by simpa using refs_vals rv) tk (fun x => by simp) few (by omega) fun h' tk' bs es ep t Hd U x => ?_
  refine ⟨.ref s.heap.objs.size, upd H s.heap.objs.size (SetO X.w bs s.heap.objs.size), I.laid (t' := tk') x (Nat.le_refl _) (setO_ok ?_), rfl, q _ bs hn U.sub (fun a ha => ?_) ?_ U.few⟩
  · obtain ⟨o, ho, hex, hd⟩ := Hd.ob
    refine ⟨o, es, ep, t, ho, hex, hd, ?_, Hd.fits, ?_, Hd.tab.ris, Hd.led⟩
    · rw [Hd.rows, List.map_map]
      rfl
    · rw [Hd.size]
      have := Hd.few
      unfold scanBound
      omega
  · obtain ⟨j, hj, e⟩ := List.getElem_of_mem ha
    obtain ⟨b, hb, sb⟩ := U.each j a hj (by rw [List.getElem?_eq_getElem hj, e])
    exact ⟨b, hb, of_decide_eq_true sb⟩
  · exact Hd.apart.imp fun z e => by rw [decide_eq_true e] at z; cases z
/-- sorted(set), its objects tuples (int, text) -/
def rSrtK (w : World) : List V → Hp → VK → Prop := fun vs H Q => ∃ (S : Addr) (bs : List Addr) (kf : Addr → Int × Str), vs = [V.ref S] ∧ H S = some (SetO w bs S) ∧ (∀ b ∈ bs, H b = some (.tup [.int (kf b).1, .str (kf b).2])) ∧ bs.length < 64 ∧
  ∀ (bs' : List Addr) (p : Addr), bs'.Perm bs → H p = none → Q (.ref p) (upd H p (.lst ((bs'.mergeSort (PySem.W.dataLe false fun a => rowP (kf a))).map V.ref)))
theorem cr_srtK (hc : X.calm = true) (hu : X.A.units + 64 < cLine) : CallR X (.builtin "sorted") (rSrtK X.w) := by
  intro pins s σ H vs us Q I r h
  obtain ⟨S, bs, kf, rfl, hS, ht, few, q⟩ := h
  rw [Vals.ref1 r]
  obtain ⟨o, es, ep, t, ho, hex, hd, hv, hf, hsz, ris, led⟩ : SetP X.w bs S s.heap := (I.hok S _ hS).1
  have rd : ∀ b ∈ bs, ∀ h' : Heap, (∀ c o, s.heap.get? c = some o → h'.get? c = some o) → ∃ xs, Reads h' (.ref b) (rowP (kf b)) xs ∧ ∀ c, c ∉ xs := fun b hb h' k => by
    obtain ⟨its, r, ⟨o, ho, hc, n, hd⟩, _⟩ := I.tuple (.inl (.inl (ht b hb)))
    match its, r with
    | [u1, u2], .cons r1 (.cons r2 .nil) =>
      obtain ⟨t1, rfl⟩ := r1
      obtain ⟨t2, rfl⟩ := r2
      exact ⟨_, .tuple (k b o ho) hc hd (.cons (.int _ t1) (.cons (.str _ t2) .nil)), fun c => by simp⟩
  refine Calls.call_function_entry kind_sorted plain_sorted entry_sorted (args_sorted1 _) ?_
  unfold Builtin.«sorted»
  refine wpAny_bind (m := checkCount "sorted" 1 1 _) (wpAny_pure ?_)
  refine wpAny_bind (collect_set (A := X.A.in1) (I.ok.hd hc) ⟨o, ho, hex.1, hd⟩ hf hsz ris led fun s1 out k1 hz1 g1 o1 pm => ?_)
  rw [hv] at pm
  obtain ⟨bs', pb, rfl⟩ := back_refs pm
  have few' : bs'.length < 64 := by rw [pb.length_eq]; exact few
  have sl : 64 ≤ sizeLine := by decide
  refine wpAny_bind (wpAny_newList ?_ (by rw [List.length_map]; omega))
  have atL : (s1.heap.push (seqObj "list" (bs'.map Value.ref).toArray 0)).get? s1.heap.objs.size = some (seqObj "list" (bs'.map Value.ref).toArray 0) := Heap.get?_push_size _ rfl
  have keep : ∀ c o, s.heap.get? c = some o → (s1.heap.push (seqObj "list" (bs'.map Value.ref).toArray 0)).get? c = some o := fun c o e => Heap.get?_push_of_some _ (k1 c o e)
  have each : ∀ {R : Value → Addr → Prop} (l : List Addr), (∀ b ∈ l, R (.ref b) b) → PySem.W.EachIs R (l.map Value.ref) l := fun {R} l hl => by
    induction l with
    | nil => exact .nil
    | cons b l ih => exact .cons (hl b List.mem_cons_self) (ih fun c hc => hl c (List.mem_cons_of_mem _ hc))
  refine wpAny_bind (wpAny_holding (PySem.W.list_sort_data (s := { s1 with heap := s1.heap.push (seqObj "list" (bs'.map Value.ref).toArray 0) }) (R := fun v b => v = Value.ref b) (enc := fun a => rowP (kf a)) atL (each bs' fun _ _ => rfl)
    (each bs' fun b hb => let ⟨xs, r, n⟩ := rd b (pb.mem_iff.mp hb) _ keep; ⟨xs, r, n _⟩) ?_ ?_ (by omega) (fun b hb => ?_) fun out' ho' eo => ?_))
  · intro d hd d' hd'
    obtain ⟨a, _, rfl⟩ := List.mem_map.mp hd
    obtain ⟨b, _, rfl⟩ := List.mem_map.mp hd'
    rfl
  · refine .inl fun d hd => ?_
    obtain ⟨a, _, rfl⟩ := List.mem_map.mp hd
    exact ⟨_, _, rfl⟩
  · have e : (rowP (kf b)).depth ≤ 2 := by simp [rowP, PyData.depth, PyData.depthAll]
    show X.A.units + 1 + 1 + (rowP (kf b)).depth < cLine
    omega
  · have e2 : out' = (bs'.mergeSort (PySem.W.dataLe false fun a => rowP (kf a))).map Value.ref := by
      generalize bs'.mergeSort (PySem.W.dataLe false fun a => rowP (kf a)) = l at eo
      clear ho'
      induction eo with
      | nil => rfl
      | cons h _ ih => rw [h, ih]; rfl
    subst e2
    generalize hl : bs'.mergeSort (PySem.W.dataLe false fun a => rowP (kf a)) = l
    have len : l.length = bs'.length := by rw [← hl, List.length_mergeSort]
    obtain ⟨c, hc'⟩ := sortedHeap_at (vs := bs'.map Value.ref) (out := (l.map Value.ref).toArray) atL
    have kept : ∀ b u, s.heap.get? b = some u → (sortedHeap (s1.heap.push (seqObj "list" (bs'.map Value.ref).toArray 0)) s1.heap.objs.size (bs'.map Value.ref) (l.map Value.ref).toArray).get? b = some u := fun b u e => by
      have lt := Heap.lt_size (k1 b u e)
      rw [sortedHeap_old (Nat.ne_of_lt lt) (by rw [Heap.size_push]; exact Nat.lt_succ_of_lt lt)]
      exact keep b u e
    have hn : H s1.heap.objs.size = none := I.hok.fresh hz1
    have J := I.call' (H' := upd H s1.heap.objs.size (.lst (l.map V.ref))) (ch := []) (s' := { s1 with heap := sortedHeap (s1.heap.push (seqObj "list" (bs'.map Value.ref).toArray 0)) s1.heap.objs.size (bs'.map Value.ref) (l.map Value.ref).toArray }) o1 (Un.laid kept hz1 hn)
      (I.hok.laid kept hz1 ⟨by rw [List.length_map]; omega, l.map Value.ref, c, vals_refs l, hc'⟩) (by show AllBare s1.gens; rw [g1]; exact I.bare) (fun _ z => nomatch z)
    exact wpAny_pure ⟨_, rfl, .ref _, _, J, rfl, by have z := q bs' _ pb hn; rw [hl] at z; exact z⟩
end
end Bs
namespace Bx
open PySem PySem.Spec PyProof.Rows L2 Bs
/-- the order of rows -/
def ple (p q : Int × Str) : Bool := decide (p.1 < q.1 ∨ (p.1 = q.1 ∧ p.2.cps.toList ≤ q.2.cps.toList))
theorem str_ext {x y : Str} (e : x.cps.toList = y.cps.toList) : x = y := by
  cases x with | mk a => cases y with | mk b => cases a with | mk l => cases b with | mk m => simp at e; rw [e]
theorem ple_data (p q : Int × Str) : (!PySem.W.dataLt (rowP q) (rowP p)) = ple p q := by
  unfold rowP ple
  rw [PySem.W.dataLt_pair (by simp [PySem.W.alike]) (by simp [PySem.W.alike]), PySem.W.dataLt_int, PySem.W.dataLt_str]
  simp only [PyData.eqv, beq_iff_eq]
  by_cases h1 : q.1 = p.1
  · by_cases h2 : q.2 = p.2
    · simp [h1, h2]
    · have h3 : ¬ p.1 < q.1 := by omega
      simp only [h1, h2, if_true, if_false]
      rw [PySem.W.not_lt_str]
      simp
  · have h4 : ¬ p.1 = q.1 := fun e => h1 e.symm
    simp only [h1, h4, if_false, false_and, or_false]
    by_cases h5 : q.1 < p.1
    · have h6 : ¬ p.1 < q.1 := by omega
      simp [h5, h6]
    · have h6 : p.1 < q.1 := by omega
      simp [h5, h6]
theorem ple_le (p q : Int × Str) : PySem.W.dataLe false rowP p q = ple p q := ple_data p q
theorem ple_trans (a b c : Int × Str) (h1 : ple a b = true) (h2 : ple b c = true) : ple a c = true := by
  simp only [ple, decide_eq_true_eq] at *
  rcases h1 with h1 | ⟨h1, k1⟩
  · rcases h2 with h2 | ⟨h2, k2⟩ <;> left <;> omega
  · rcases h2 with h2 | ⟨h2, k2⟩
    · left; omega
    · right; exact ⟨h1.trans h2, List.le_trans k1 k2⟩
theorem ple_total (a b : Int × Str) : (ple a b || ple b a) = true := by
  simp only [ple, Bool.or_eq_true, decide_eq_true_eq]
  by_cases h1 : a.1 < b.1
  · exact .inl (.inl h1)
  · by_cases h2 : b.1 < a.1
    · exact .inr (.inl h2)
    · have e : a.1 = b.1 := by omega
      rcases List.le_total a.2.cps.toList b.2.cps.toList with h | h
      · exact .inl (.inr ⟨e, h⟩)
      · exact .inr (.inr ⟨e.symm, h⟩)
theorem ple_anti {a b : Int × Str} (h1 : ple a b = true) (h2 : ple b a = true) : a = b := by
  simp only [ple, decide_eq_true_eq] at *
  rcases h1 with h1 | ⟨h1, k1⟩
  · rcases h2 with h2 | ⟨h2, _⟩ <;> omega
  · rcases h2 with h2 | ⟨_, k2⟩
    · omega
    · exact Prod.ext h1 (str_ext (List.le_antisymm k1 k2))
theorem srt_perm {l m : List (Int × Str)} (h : l.Perm m) : l.mergeSort ple = m.mergeSort ple :=
  List.Perm.eq_of_pairwise (le := fun a b => ple a b = true) (fun a b _ _ h1 h2 => ple_anti h1 h2) (List.pairwise_mergeSort ple_trans ple_total l) (List.pairwise_mergeSort ple_trans ple_total m) ((List.mergeSort_perm l ple).trans (h.trans (List.mergeSort_perm m ple).symm))
def rowD (p : Int × Str) : D := .tup [.int p.1, .str p.2]
def prS : D → Option (Int × Str)
  | .tup [.int i, .str x] => some (i, x)
  | _ => none
def prSs : List D → Option (List (Int × Str))
  | [] => some []
  | d :: ds => match prS d, prSs ds with | some p, some ps => some (p :: ps) | _, _ => none
theorem prS_eq {d : D} {p : Int × Str} (e : prS d = some p) : d = rowD p := by
  unfold prS at e
  split at e
  · cases e; rfl
  · cases e
theorem prSs_eq : ∀ {ds : List D} {ps : List (Int × Str)}, prSs ds = some ps → ds = ps.map rowD
  | [], _, e => by cases e; rfl
  | d :: ds, ps, e => by
    simp only [prSs] at e
    split at e
    · rename_i e1 e2
      cases e
      rw [prS_eq e1, prSs_eq e2]
      rfl
    · cases e
@[simp] theorem prSs_map (ps : List (Int × Str)) : prSs (ps.map rowD) = some ps := by
  induction ps with
  | nil => rfl
  | cons p ps ih => simp only [List.map_cons, prSs, ih]; rfl
def srtS (ps : List (Int × Str)) : List (Int × Str) := ps.eraseDups.mergeSort ple
def xSrtSet (f : Fn) : Fn := fun ρ h => (f ρ h).bind fun d h1 => match asL h1 d with
  | some ds => match prSs ds with
    | some ps => if decide (ps.length < 64) then .ok (.lst ((srtS ps).map rowD)) h1 else .bad
    | none => .bad
  | none => .bad
theorem erase_nodup : ∀ (n : Nat) (l : List (Int × Str)), l.length ≤ n → l.eraseDups.Nodup
  | _, [], _ => by simp
  | 0, a :: l, h => by simp at h
  | n + 1, a :: l, h => by
    rw [List.eraseDups_cons]
    refine List.nodup_cons.mpr ⟨fun z => ?_, erase_nodup n _ ?_⟩
    · have := (List.mem_filter.mp (List.mem_eraseDups.mp z)).2
      simp at this
    · have := List.length_filter_le (fun b => !b == a) l
      simp only [List.length_cons] at h
      omega
section
variable {g : Gx} {W : WX} {X : Cx} {w : Wd} {H : Hp}
theorem rows_at : ∀ {ps : List (Int × Str)} {vs : List V}, RVs g w H (ps.map rowD) vs → ∃ as : List Addr, vs = as.map V.ref ∧ as.length = ps.length ∧ ∀ (i : Nat) (a : Addr), as[i]? = some a → ∃ p, ps[i]? = some p ∧ H a = some (.tup [.int p.1, .str p.2])
  | [], _, .nil => ⟨[], rfl, rfl, fun i a e => by simp at e⟩
  | p :: ps, _, .cons r t => by
    obtain ⟨a, us, rfl, ha, t2⟩ := rv_tup r
    obtain ⟨x, y, rfl, rx, ry⟩ := rvs2 t2
    cases rx
    cases ry
    obtain ⟨as, rfl, hl, k⟩ := rows_at t
    refine ⟨a :: as, rfl, by simp [hl], fun i b e => ?_⟩
    cases i with
    | zero =>
      simp at e
      subst e
      exact ⟨p, rfl, ha⟩
    | succ i => exact k i b (by simpa using e)
theorem q_srtset {e : Expr} {f : Fn} {p p1 pos pos1 : Pos} (xo : XO g X) (hg : Gl X "sorted") (hm : g.mg "sorted" = none) (hg1 : Gl X "set") (hm1 : g.mg "set" = none) (he : PE X e (tI g W f)) (hs : starEach [e] X.env = [(false, eval e X.env)] := by rfl)
    (hs1 : starEach [.Call (.Name "set" p1) [e] [] pos1] X.env = [(false, eval (.Call (.Name "set" p1) [e] [] pos1) X.env)] := by rfl) :
    PE X (.Call (.Name "sorted" p) [.Call (.Name "set" p1) [e] [] pos1] [] pos) (tI g W (xSrtSet f)) := by
  have hu : X.A.units + 64 < cLine := by have := xo.un; omega
  have in1 := pe_callTy (p := p1) (pos := pos1) (cr_setK xo.calm hu) hg1 (by rw [xo.mg]; exact hm1) (by decide +kernel) (pa_cons he pa_nil hs) (by decide +kernel) (by decide +kernel) hs
  have out := pe_callB (p := p) (pos := pos) (cr_srtK xo.calm hu) hg (by rw [xo.mg]; exact hm) (by decide +kernel) (pa_cons in1 pa_nil hs1) (by decide +kernel) (by decide +kernel) hs1
  refine ⟨fun pins s σ H Q I ⟨w, ρ, h, sr, o⟩ => out.run pins s σ H Q I (tI_go sr o fun V H1 w1 d h1 l sr1 rv o1 => ?_)⟩
  split at o1
  · rename_i ds e1
    split at o1
    · rename_i ps e2
      split at o1
      · rename_i hz
        obtain ⟨q, vs, rfl, hq, t⟩ := asL_ok e1 sr1.hr rv
        have e3 := prSs_eq e2
        subst e3
        obtain ⟨as, rfl, hl, hrow⟩ := rows_at t
        have kf : ∀ a ∈ as, ∃ p ∈ ps, H1 a = some (.tup [.int p.1, .str p.2]) := fun a ha => by
          obtain ⟨i, hi, e⟩ := List.getElem_of_mem ha
          obtain ⟨p, e4, e5⟩ := hrow i a (by rw [List.getElem?_eq_getElem hi, e])
          exact ⟨p, List.mem_of_getElem? e4, e5⟩
        have kH : ∀ (a : Addr) (p : Int × Str), H1 a = some (.tup [.int p.1, .str p.2]) → kfH H1 a = [.inl p.1, .inr p.2] := fun a p e => by simp [kfH, e, vKey]
        let key : Addr → Int × Str := fun a => match H1 a with | some (.tup [.int i, .str x]) => (i, x) | _ => (0, "")
        have keyOf : ∀ (a : Addr) (p : Int × Str), H1 a = some (.tup [.int p.1, .str p.2]) → key a = p := fun a p e => by simp [key, e]
        refine ⟨q, as, rfl, .inl (.inl hq), fun a ha => ?_, by rw [hl]; exact of_decide_eq_true hz, fun S bs hS sub all ap few => ?_⟩
        · obtain ⟨p, _, e⟩ := kf a ha
          rw [kH a p e, e]
          rfl
        · have hb : ∀ b ∈ bs, H1 b = some (.tup [.int (key b).1, .str (key b).2]) := fun b hb => by
            obtain ⟨p, _, e⟩ := kf b (sub b hb)
            rw [keyOf b p e]
            exact e
          have neS : ∀ b ∈ bs, b ≠ S := fun b h z => by
            have := hb b h
            rw [z, hS] at this
            cases this
          refine ⟨S, bs, key, rfl, upd_same, fun b h => by rw [upd_ne (neS b h)]; exact hb b h, by have := of_decide_eq_true hz; omega, fun bs' pp pb hp => ?_⟩
          have hr2 := hr_new (o := SetO X.w bs S) sr1.hr hS
          have l2 := later_new (o := SetO X.w bs S) sr1.hr hS
          have perm : (bs'.map key).Perm ps.eraseDups := by
            refine (List.perm_ext_iff_of_nodup ?_ (erase_nodup _ ps (Nat.le_refl _))).mpr fun p => ?_
            · refine ((pb.map key).nodup_iff).mpr (List.pairwise_map.mpr (List.Pairwise.imp_of_mem (fun {a b} ha hb2 hne e => hne ?_) ap))
              rw [kH a (key a) (hb a ha), kH b (key b) (hb b hb2), e]
            · rw [List.mem_eraseDups, List.mem_map]
              constructor
              · rintro ⟨b, h, rfl⟩
                have h' := pb.mem_iff.mp h
                obtain ⟨p, hp', e⟩ := kf b (sub b h')
                rw [keyOf b p e]
                exact hp'
              · intro hp'
                obtain ⟨i, hi, e⟩ := List.getElem_of_mem hp'
                have hi2 : i < as.length := by rw [hl]; exact hi
                obtain ⟨p2, e4, e5⟩ := hrow i as[i] (List.getElem?_eq_getElem hi2)
                have e6 : p2 = p := by
                  rw [List.getElem?_eq_getElem hi, e] at e4
                  exact (Option.some.inj e4).symm
                subst e6
                obtain ⟨b, hb1, e7⟩ := all as[i] (List.getElem_mem hi2)
                rw [kH _ p2 e5, kH b (key b) (hb b hb1)] at e7
                refine ⟨b, pb.mem_iff.mpr hb1, ?_⟩
                simp at e7
                exact Prod.ext e7.1 e7.2
          have eq : (bs'.mergeSort (PySem.W.dataLe false fun a => rowP (key a))).map key = srtS ps := by
            unfold srtS
            rw [← srt_perm perm]
            exact List.map_mergeSort fun a _ b _ => (ple_le (key a) (key b))
          generalize hL : bs'.mergeSort (PySem.W.dataLe false fun a => rowP (key a)) = L at eq ⊢
          have memL : ∀ b ∈ L, b ∈ bs := fun b h => by
            rw [← hL] at h
            exact pb.mem_iff.mp ((List.mergeSort_perm bs' _).mem_iff.mp h)
          rw [← eq] at o1
          refine OKg.lst (o1.mono l2) hr2 ?_ pp hp
          clear eq hL o1
          induction L with
          | nil => exact .nil
          | cons b L ih =>
            refine .cons (.tup (vs := [.int (key b).1, .str (key b).2]) ?_ (.cons (.int _) (.cons (.str _) .nil))) (ih fun c hc => memL c (List.mem_cons_of_mem _ hc))
            have h' := memL b List.mem_cons_self
            rw [upd_ne (neS b h')]
            exact hb b h'
      · exact o1.elim
    · exact o1.elim
  · exact o1.elim
end
end Bx
namespace Bx
open PySem PySem.Spec PyProof.Rows L2
def xGo (f : Fn) : Fn := fun ρ h => (f ρ h).bind fun d h1 => match d with
  | .ref n => match h1[n]? with
    | some (.lst ds) => .ok (.lst ds) (h1.set n .gone)
    | _ => .bad
  | d => .ok d h1
theorem q_go {g : Gx} {W : WX} {X : Cx} {e : Expr} {f : Fn} (he : PE X e (tI g W f)) : PE X e (tI g W (xGo f)) := ⟨fun pins s σ H Q I ⟨w, ρ, h, sr, o⟩ => he.run pins s σ H Q I (tI_go sr o fun V H1 w1 d h1 l sr1 rv o1 => by
  cases d with
  | ref n =>
    simp only at o1
    split at o1
    · rename_i ds e1
      cases rv with
      | @ref _ a ha =>
        obtain ⟨nF, vs, e2, t⟩ := sr1.hr.ob n _ a e1 ha
        exact o1 (w1.frz a) H1 (.ref a) (later_frz sr1.hr) (hr_gone sr1.hr e1 ha) (.lst e2 (.inl rfl) (t.mono (later_frz sr1.hr)))
    · exact o1.elim
  | _ => exact o1.keep sr1.hr rv)⟩
end Bx
namespace Bx
open PySem PySem.Spec PyProof.Rows L2
mutual
theorem toP_any {f : Nat → Option PyData} : ∀ {d : D} {p : PyData}, toP (fun _ => none) d = some p → toP f d = some p
  | .non, p, e => e
  | .bl _, p, e => e
  | .int _, p, e => e
  | .str _, p, e => e
  | .tup ds, p, e => by
    simp only [toP, Option.map_eq_some_iff] at e ⊢
    obtain ⟨ps, e1, e2⟩ := e
    exact ⟨ps, toPs_any e1, e2⟩
  | .lst ds, p, e => by
    simp only [toP, Option.map_eq_some_iff] at e ⊢
    obtain ⟨ps, e1, e2⟩ := e
    exact ⟨ps, toPs_any e1, e2⟩
  | .dct kds, p, e => by cases kds <;> exact e
  | .ref n, p, e => by simp [toP] at e
  | .obj _ _, p, e => e
  | .exn _ _, p, e => e
  | .scr _, p, e => e
  | .val _, p, e => e
theorem toPs_any {f : Nat → Option PyData} : ∀ {ds : List D} {ps : List PyData}, toPs (fun _ => none) ds = some ps → toPs f ds = some ps
  | [], ps, e => e
  | d :: ds, ps, e => by
    simp only [toPs] at e ⊢
    split at e
    · rename_i p qs e1 e2
      rw [toP_any e1, toPs_any e2]
      exact e
    · cases e
end
abbrev cv : D → Option PyData := toP (fun _ => none)
abbrev cvs : List D → Option (List PyData) := toPs (fun _ => none)
theorem cvs_app {l r : List D} {ps qs : List PyData} (e1 : cvs l = some ps) (e2 : cvs r = some qs) : cvs (l ++ r) = some (ps ++ qs) := by
  induction l generalizing ps with
  | nil => cases e1; exact e2
  | cons a l ih =>
    simp only [cvs, toPs] at e1
    split at e1
    · rename_i p ps2 e3 e4
      cases e1
      have := ih e4
      simp only [cvs] at this
      simp only [cvs, List.cons_append, toPs, e3, this]
    · cases e1
theorem cvs_all {P : PyData → Prop} {ds : List D} (h : ∀ d ∈ ds, ∃ p, cv d = some p ∧ P p) : ∃ ps, cvs ds = some ps ∧ ps.length = ds.length ∧ ∀ p ∈ ps, P p := by
  induction ds with
  | nil => exact ⟨[], rfl, rfl, fun p hp => by cases hp⟩
  | cons a l ih =>
    obtain ⟨p, e, hp⟩ := h a (List.mem_cons_self ..)
    obtain ⟨ps, e2, l2, h2⟩ := ih fun d hd => h d (List.mem_cons_of_mem _ hd)
    refine ⟨p :: ps, ?_, by simp [l2], fun q hq => ?_⟩
    · simp only [cv, cvs] at e e2
      simp only [cvs, toPs, e, e2]
    · rcases List.mem_cons.mp hq with rfl | hq
      · exact hp
      · exact h2 q hq
/-- how a thing's data are -/
structure Sh (n m : Nat) (p : PyData) : Prop where
  sh : p.showable = true
  le : p.shown.length ≤ n
  dp : p.depth ≤ m
structure Cl (p : PyData) : Prop where
  nd : p.hasDict = false
  nl : noL p = true
theorem sh_all {ps : List PyData} {n m : Nat} (h : ∀ p ∈ ps, Sh n m p) : PyData.showableAll ps = true ∧ PyData.depthAll ps ≤ m ∧ piled (PyData.shownAll ps) ≤ ps.length * (n + 2) := by
  induction ps with
  | nil => exact ⟨rfl, Nat.zero_le _, by simp [PyData.shownAll, piled]⟩
  | cons p ps ih =>
    obtain ⟨h1, h2, h3⟩ := ih fun q hq => h q (List.mem_cons_of_mem _ hq)
    have hp := h p (List.mem_cons_self ..)
    refine ⟨by simp only [PyData.showableAll, hp.sh, h1, Bool.and_self], by simp only [PyData.depthAll]; exact Nat.max_le.mpr ⟨hp.dp, h2⟩, ?_⟩
    simp only [PyData.shownAll, piled_cons, List.length_cons, Nat.add_mul]
    have := hp.le
    omega
theorem cl_all {ps : List PyData} (h : ∀ p ∈ ps, Cl p) : PyData.hasDictAll ps = false ∧ noLs ps = true := by
  induction ps with
  | nil => exact ⟨rfl, rfl⟩
  | cons p ps ih =>
    obtain ⟨h1, h2⟩ := ih fun q hq => h q (List.mem_cons_of_mem _ hq)
    have hp := h p (List.mem_cons_self ..)
    exact ⟨by simp only [PyData.hasDictAll, hp.nd, h1, Bool.or_self], by simp only [noLs, hp.nl, h2, Bool.and_self]⟩
theorem tupleText_le (ts : List Str) : (tupleText ts).length ≤ piled ts + 3 := by
  unfold tupleText
  rw [strLen_append, strLen_append]
  have e1 : (("(" : String) : Str).length = 1 := rfl
  have e2 : ((if ts.length == 1 then ",)" else ")" : String) : Str).length ≤ 2 := by split <;> decide
  by_cases h : ts = []
  · subst h
    simp [piled, Str.join] at *
    decide
  · have := join_length_add ts h
    omega
theorem sh_tup {ps : List PyData} {n m : Nat} (h : ∀ p ∈ ps, Sh n m p) : Sh (ps.length * (n + 2) + 3) (m + 1) (.tuple ps) := by
  obtain ⟨h1, h2, h3⟩ := sh_all h
  refine ⟨h1, ?_, ?_⟩
  · simp only [PyData.shown]
    have := tupleText_le (PyData.shownAll ps)
    omega
  · simp only [PyData.depth]
    omega
theorem cl_tup {ps : List PyData} (h : ∀ p ∈ ps, Cl p) : Cl (.tuple ps) := by
  obtain ⟨h1, h2⟩ := cl_all h
  exact ⟨by simpa only [PyData.hasDict] using h1, by simpa only [noL] using h2⟩
theorem Sh.mono {n m n' m' : Nat} {p : PyData} (s : Sh n m p) (h1 : n ≤ n') (h2 : m ≤ m') : Sh n' m' p := ⟨s.sh, Nat.le_trans s.le h1, Nat.le_trans s.dp h2⟩
theorem sh2 {p q : PyData} {a b m : Nat} (h1 : Sh a m p) (h2 : Sh b m q) : Sh (a + b + 7) (m + 1) (.tuple [p, q]) := by
  refine ⟨by simp only [PyData.showable, PyData.showableAll, h1.sh, h2.sh, Bool.and_self], ?_, ?_⟩
  · simp only [PyData.shown, PyData.shownAll]
    have := tupleText_le [p.shown, q.shown]
    simp only [piled_cons, piled_nil] at this
    have := h1.le
    have := h2.le
    omega
  · simp only [PyData.depth, PyData.depthAll]
    have := h1.dp
    have := h2.dp
    omega
theorem sh3 {p q r : PyData} {a b c m : Nat} (h1 : Sh a m p) (h2 : Sh b m q) (h3 : Sh c m r) : Sh (a + b + c + 9) (m + 1) (.tuple [p, q, r]) := by
  refine ⟨by simp only [PyData.showable, PyData.showableAll, h1.sh, h2.sh, h3.sh, Bool.and_self], ?_, ?_⟩
  · simp only [PyData.shown, PyData.shownAll]
    have := tupleText_le [p.shown, q.shown, r.shown]
    simp only [piled_cons, piled_nil] at this
    have := h1.le
    have := h2.le
    have := h3.le
    omega
  · simp only [PyData.depth, PyData.depthAll]
    have := h1.dp
    have := h2.dp
    have := h3.dp
    omega
theorem sh_str {x : Str} {n : Nat} (s : SS n x) : Sh (10 * n + 2) 0 (.str x) := by
  refine ⟨rfl, ?_, Nat.le_refl _⟩
  simp only [PyData.shown]
  have := PySem.StrLaws.reprText_len x fun c hc => Nat.lt_of_le_of_lt (s.sm c hc).2 (by decide)
  have := s.le
  omega
theorem textFrom_le : ∀ (ts : List Str) (k : Nat) (acc : Str), (textFrom k acc ts).length ≤ acc.length + piled ts
  | [], k, acc => by simp [textFrom, piled]
  | t :: ts, k, acc => by
    have ih := textFrom_le ts (k + 1) (acc ++ (if k > 0 then ", " else "" : String) ++ t)
    have e : (acc ++ (if k > 0 then ", " else "" : String) ++ t).length ≤ acc.length + 2 + t.length := by
      rw [strLen_append, strLen_append]
      have : ((if k > 0 then ", " else "" : String) : Str).length ≤ 2 := by split <;> decide
      omega
    simp only [textFrom, piled_cons]
    omega
theorem listText_le (ts : List Str) : (listText ts).length ≤ piled ts + 2 := by
  unfold listText
  rw [strLen_append]
  have := textFrom_le ts 0 "["
  have e1 : (("[" : String) : Str).length = 1 := rfl
  have e2 : (("]" : String) : Str).length = 1 := rfl
  omega
theorem sh_list {ps : List PyData} {n m : Nat} (h : ∀ p ∈ ps, Sh n m p) : Sh (ps.length * (n + 2) + 2) (m + 1) (.list ps) := by
  obtain ⟨h1, h2, h3⟩ := sh_all h
  refine ⟨h1, ?_, ?_⟩
  · simp only [PyData.shown]
    have := listText_le (PyData.shownAll ps)
    omega
  · simp only [PyData.depth]
    omega
mutual
theorem plain_nd : ∀ p : PyData, p.hasDict = false → p.plain = true
  | .none, _ => rfl
  | .bool _, _ => rfl
  | .int _, _ => rfl
  | .str _, _ => rfl
  | .list xs, h => by
    simp only [PyData.hasDict] at h
    simp only [PyData.plain]
    exact plains_nd xs h
  | .tuple xs, h => by
    simp only [PyData.hasDict] at h
    simp only [PyData.plain]
    exact plains_nd xs h
  | .dict _, h => by simp [PyData.hasDict] at h
theorem plains_nd : ∀ ps : List PyData, PyData.hasDictAll ps = false → PyData.plainAll ps = true
  | [], _ => rfl
  | p :: ps, h => by
    simp only [PyData.hasDictAll, Bool.or_eq_false_iff] at h
    simp only [PyData.plainAll, plain_nd p h.1, plains_nd ps h.2, Bool.and_self]
end

/-- data that may be compared and shown -/
structure Dg (n m : Nat) (p : PyData) : Prop where
  sh : Sh n m p
  nd : p.hasDict = false
theorem Dg.mono {n m n' m' : Nat} {p : PyData} (d : Dg n m p) (h1 : n ≤ n') (h2 : m ≤ m') : Dg n' m' p := ⟨d.sh.mono h1 h2, d.nd⟩
theorem dgs_nd {ps : List PyData} (h : ∀ p ∈ ps, p.hasDict = false) : PyData.hasDictAll ps = false := by
  induction ps with
  | nil => rfl
  | cons p ps ih => simp only [PyData.hasDictAll, h p (List.mem_cons_self ..), ih fun q hq => h q (List.mem_cons_of_mem _ hq), Bool.or_self]
theorem dg_list {ps : List PyData} {n m : Nat} (h : ∀ p ∈ ps, Dg n m p) : Dg (ps.length * (n + 2) + 2) (m + 1) (.list ps) :=
  ⟨sh_list fun p hp => (h p hp).sh, by simp only [PyData.hasDict]; exact dgs_nd fun p hp => (h p hp).nd⟩
theorem dg_nats : ∀ i : Fin 200, ((PyData.int ((i : Nat) : Int)).showable && decide ((PyData.int ((i : Nat) : Int)).shown.length ≤ 10)) = true := by decide +kernel
theorem dg_nat {i : Nat} (h : i < 200) : Dg 10 0 (.int (i : Int)) := by
  have := dg_nats ⟨i, h⟩
  simp only [Bool.and_eq_true, decide_eq_true_eq] at this
  exact ⟨⟨this.1, this.2, Nat.le_refl _⟩, rfl⟩
noncomputable def bAlike (cl : Str → List D → Hh → Res D) : Fs :=
  zRet (xAnd (xBin eqD (xV 0) (xV 1)) (xBin eqD (xBi .repr (xCons (xV 0) (xNil))) (xBi .repr (xCons (xV 1) (xNil)))))
theorem dOk_of {n m : Nat} {p : PyData} (d : Dg n m p) (hm : m ≤ 150) : dOk p = true := by
  simp only [dOk, plain_nd p d.nd, Bool.true_and, decide_eq_true_eq]
  exact Nat.le_trans d.sh.dp hm
theorem repr_of {h : Hh} {a : D} {n m : Nat} {p : PyData} (e : toD h a = some p) (d : Dg n m p) (hn : n ≤ 16000000) (hm : m ≤ 150) : biS .repr [a] h = .ok (.str p.shown) h := by
  have hz : sz p.shown.length = true := by
    simp only [sz, decide_eq_true_eq]
    exact Nat.le_trans (Nat.le_trans d.sh.le hn) (by decide)
  simp only [biS, bRepr, e, d.sh.sh, hz, decide_eq_true (Nat.le_trans d.sh.dp hm), Bool.and_self, if_true]
theorem eq_same {h : Hh} {a b : D} {n m : Nat} {p : PyData} (ea : toD h a = some p) (eb : toD h b = some p) (d : Dg n m p) (hm : m ≤ 150) : eqD a b h = .ok (.bl true) h ∧ neD a b h = .ok (.bl false) h := by
  have df : difL a b h = false := by
    unfold difL
    split
    · rename_i xs ys e1 e2
      have len : ∀ {c : D} {zs : List D}, asL h c = some zs → toD h c = some p → ∃ ps, p = .list ps ∧ ps.length = zs.length := fun {c zs} e1 e2 => by
        cases c with
        | lst ds =>
          simp only [asL, Option.some.injEq] at e1
          subst e1
          simp only [toD, toP, Option.map_eq_some_iff] at e2
          obtain ⟨ps, e3, rfl⟩ := e2
          exact ⟨ps, rfl, (toPs_len e3).symm⟩
        | ref k =>
          simp only [asL] at e1
          simp only [toD, toP, refP] at e2
          split at e1
          · rename_i e4
            cases e1
            rw [e4] at e2
            simp only [Option.map_eq_some_iff] at e2
            obtain ⟨ps, e3, rfl⟩ := e2
            exact ⟨ps, rfl, (toPs_len e3).symm⟩
          · cases e1
        | _ => simp [asL] at e1
      obtain ⟨ps, rfl, l1⟩ := len e1 ea
      obtain ⟨qs, e3, l2⟩ := len e2 eb
      cases e3
      simp only [decide_eq_false_iff_not]
      omega
    · rfl
  have ok := dOk_of d hm
  have er := PySem.SeqAt.eqv_refl_plain p (plain_nd p d.nd)
  constructor
  · simp only [eqD, df, Bool.false_eq_true, if_false, ea, eb, ok, Bool.and_self, if_true, er]
  · simp only [neD, df, Bool.false_eq_true, if_false, ea, eb, ok, Bool.and_self, if_true, er, Bool.not_true]
theorem alike_same {T : Tab} (hT : T "_law_alike" = some ⟨2, 2, bAlike⟩) {j : Nat} {h : Hh} {a b : D} {n m : Nat} {p : PyData} (ea : toD h a = some p) (eb : toD h b = some p) (d : Dg n m p) (hn : n ≤ 16000000) (hm : m ≤ 150) : callN T (j + 1) "_law_alike" [a, b] h = .ok (.bl true) h := by
  rw [call_at hT rfl]
  have e1 := (eq_same ea eb d hm).1
  have e2 := repr_of ea d hn hm
  have e3 := repr_of eb d hn hm
  simp [bAlike, startR, e1, e2, e3]
end Bx
namespace Bx
open PySem PySem.Spec PyProof.Rows L2
inductive Kd where
  | nm (x : Str)
  | ls (a : Kd)
  | pr (a b : Kd)
  | fn (a b : Kd)
  deriving DecidableEq, Inhabited
namespace Kd
def enc : Kd → D
  | nm x => .str x
  | ls a => .tup [.str "list", a.enc]
  | pr a b => .tup [.str "pair", a.enc, b.enc]
  | fn a b => .tup [.str "fun", a.enc, b.enc]
def size : Kd → Nat
  | nm _ => 1
  | ls a => 1 + a.size
  | pr a b => 1 + (a.size + b.size)
  | fn a b => 1 + (a.size + b.size)
def depth : Kd → Nat
  | nm _ => 0
  | ls a => 1 + a.depth
  | pr a b => 1 + max a.depth b.depth
  | fn a b => 1 + max a.depth b.depth
def parts : Kd → List Kd
  | nm _ => []
  | ls a => [a]
  | pr a b => [a, b]
  | fn a b => [a, b]
def leaves : Kd → List Str
  | nm x => [x]
  | ls a => a.leaves
  | pr a b => a.leaves ++ b.leaves
  | fn a b => a.leaves ++ b.leaves
def text : Kd → Str
  | nm x => x
  | ls a => "list" ++ ("(" : Str) ++ a.text ++ ")"
  | pr a b => "pair" ++ ("(" : Str) ++ (a.text ++ "," ++ b.text) ++ ")"
  | fn a b => "fun" ++ ("(" : Str) ++ (a.text ++ "," ++ b.text) ++ ")"
/-- all kinds in it, from the left -/
def within : Kd → List Kd
  | nm x => [nm x]
  | ls a => ls a :: a.within
  | pr a b => pr a b :: (a.within ++ b.within)
  | fn a b => fn a b :: (a.within ++ b.within)
def isNm : Kd → Bool
  | nm _ => true
  | _ => false
/-- its names are names -/
def good : Kd → Prop
  | nm x => SS 8 x ∧ 0 < x.length
  | ls a => a.good
  | pr a b => a.good ∧ b.good
  | fn a b => a.good ∧ b.good
theorem size_pos (k : Kd) : 0 < k.size := by cases k <;> simp only [size] <;> omega
theorem depth_lt (k : Kd) : k.depth < k.size := by
  induction k with
  | nm x => simp only [size, depth]; omega
  | ls a ih => simp only [size, depth]; omega
  | pr a b iha ihb => simp only [size, depth]; omega
  | fn a b iha ihb => simp only [size, depth]; omega
theorem within_len (k : Kd) : k.within.length = k.size := by
  induction k with
  | nm x => rfl
  | ls a ih => simp only [within, size, List.length_cons, ih]; omega
  | pr a b iha ihb => simp only [within, size, List.length_cons, List.length_append, iha, ihb]; omega
  | fn a b iha ihb => simp only [within, size, List.length_cons, List.length_append, iha, ihb]; omega
theorem within_self (k : Kd) : k ∈ k.within := by cases k <;> simp [within]
theorem within_good {k : Kd} (g : k.good) : ∀ a ∈ k.within, a.good := by
  induction k with
  | nm x => intro a h; simp only [within, List.mem_singleton] at h; rw [h]; exact g
  | ls a ih =>
    intro b h
    simp only [within, List.mem_cons] at h
    rcases h with rfl | h
    · exact g
    · exact ih g b h
  | pr a b iha ihb =>
    intro c h
    simp only [within, List.mem_cons, List.mem_append] at h
    rcases h with rfl | h | h
    · exact g
    · exact iha g.1 c h
    · exact ihb g.2 c h
  | fn a b iha ihb =>
    intro c h
    simp only [within, List.mem_cons, List.mem_append] at h
    rcases h with rfl | h | h
    · exact g
    · exact iha g.1 c h
    · exact ihb g.2 c h
theorem within_size {k : Kd} : ∀ a ∈ k.within, a.size ≤ k.size := by
  induction k with
  | nm x => intro a h; simp only [within, List.mem_singleton] at h; rw [h]; exact Nat.le_refl _
  | ls a ih =>
    intro b h
    simp only [within, List.mem_cons] at h
    rcases h with rfl | h
    · exact Nat.le_refl _
    · have := ih b h; simp only [size]; omega
  | pr a b iha ihb =>
    intro c h
    simp only [within, List.mem_cons, List.mem_append] at h
    rcases h with rfl | h | h
    · exact Nat.le_refl _
    · have := iha c h; simp only [size]; omega
    · have := ihb c h; simp only [size]; omega
  | fn a b iha ihb =>
    intro c h
    simp only [within, List.mem_cons, List.mem_append] at h
    rcases h with rfl | h | h
    · exact Nat.le_refl _
    · have := iha c h; simp only [size]; omega
    · have := ihb c h; simp only [size]; omega
theorem leaves_within (k : Kd) : (k.within.filter isNm).map enc = k.leaves.map D.str := by
  induction k with
  | nm x => rfl
  | ls a ih => simpa [within, leaves, isNm] using ih
  | pr a b iha ihb => simp [within, leaves, isNm, List.filter_append] at *; rw [iha, ihb]
  | fn a b iha ihb => simp [within, leaves, isNm, List.filter_append] at *; rw [iha, ihb]
theorem mem_within_parts {k a : Kd} : a ∈ k.within ↔ a = k ∨ ∃ p ∈ k.parts, a ∈ p.within := by
  cases k <;> simp [within, parts]
abbrev cs (x : Str) : List Nat := x.cps.toList
theorem cs_app (x y : Str) : cs (x ++ y) = cs x ++ cs y := app_list x y
/-- a letter -/
def lt (c : Nat) : Bool := decide (97 ≤ c ∧ c ≤ 122)
theorem cs_ls (a : Kd) : cs (ls a).text = [108, 105, 115, 116] ++ 40 :: (cs a.text ++ [41]) := by
  simp only [text, cs_app]
  have e1 : cs "list" = [108, 105, 115, 116] := by decide +kernel
  have e2 : cs "(" = [40] := by decide +kernel
  have e3 : cs ")" = [41] := by decide +kernel
  rw [e1, e2, e3]
  simp
theorem cs_pr (a b : Kd) : cs (pr a b).text = [112, 97, 105, 114] ++ 40 :: (cs a.text ++ 44 :: (cs b.text ++ [41])) := by
  simp only [text, cs_app]
  have e1 : cs "pair" = [112, 97, 105, 114] := by decide +kernel
  have e2 : cs "(" = [40] := by decide +kernel
  have e3 : cs ")" = [41] := by decide +kernel
  have e4 : cs "," = [44] := by decide +kernel
  rw [e1, e2, e3, e4]
  simp
theorem cs_fn (a b : Kd) : cs (fn a b).text = [102, 117, 110] ++ 40 :: (cs a.text ++ 44 :: (cs b.text ++ [41])) := by
  simp only [text, cs_app]
  have e1 : cs "fun" = [102, 117, 110] := by decide +kernel
  have e2 : cs "(" = [40] := by decide +kernel
  have e3 : cs ")" = [41] := by decide +kernel
  have e4 : cs "," = [44] := by decide +kernel
  rw [e1, e2, e3, e4]
  simp
theorem nm_lt {x : Str} (g : (nm x).good) : ∀ c ∈ cs x, lt c = true := fun c hc => by
  have := g.1.sm c hc
  simp only [lt, decide_eq_true_eq]
  exact this
/-- what may stand behind a kind's text: nothing, a comma, a closing bracket -/
def Stop (r : List Nat) : Prop := r = [] ∨ ∃ c t, r = c :: t ∧ (c = 44 ∨ c = 41)
theorem letters_eq : ∀ {u v r s : List Nat}, (∀ c ∈ u, lt c = true) → (∀ c ∈ v, lt c = true) → (∀ c t, r = c :: t → lt c = false) → (∀ c t, s = c :: t → lt c = false) → u ++ r = v ++ s → u = v ∧ r = s
  | [], [], r, s, _, _, _, _, e => ⟨rfl, e⟩
  | [], c :: v, r, s, _, hv, hr, _, e => by
    have := hr c (v ++ s) e
    rw [hv c (by simp)] at this
    cases this
  | c :: u, [], r, s, hu, _, _, hs, e => by
    have := hs c (u ++ r) e.symm
    rw [hu c (by simp)] at this
    cases this
  | c :: u, d :: v, r, s, hu, hv, hr, hs, e => by
    simp only [List.cons_append, List.cons.injEq] at e
    obtain ⟨rfl, e⟩ := e
    obtain ⟨h1, h2⟩ := letters_eq (fun x hx => hu x (List.mem_cons_of_mem _ hx)) (fun x hx => hv x (List.mem_cons_of_mem _ hx)) hr hs e
    exact ⟨by rw [h1], h2⟩
theorem Stop.no {r : List Nat} (h : Stop r) : ∀ c t, r = c :: t → lt c = false := fun c t e => by
  rcases h with rfl | ⟨d, u, rfl, hd⟩
  · cases e
  · cases e
    rcases hd with rfl | rfl <;> decide
theorem Stop.nb {r : List Nat} (h : Stop r) : ∀ t, r ≠ 40 :: t := fun t e => by
  rcases h with rfl | ⟨d, u, rfl, hd⟩
  · cases e
  · cases e
    rcases hd with z | z <;> cases z
theorem stop_br (r : List Nat) : Stop (41 :: r) := .inr ⟨41, r, rfl, .inr rfl⟩
theorem stop_co (r : List Nat) : Stop (44 :: r) := .inr ⟨44, r, rfl, .inl rfl⟩
theorem br_no {t : List Nat} : ∀ c u, (40 :: t : List Nat) = c :: u → lt c = false := fun c u e => by cases e; decide
theorem wl : ∀ c ∈ ([108, 105, 115, 116] : List Nat), lt c = true := by decide
theorem wp : ∀ c ∈ ([112, 97, 105, 114] : List Nat), lt c = true := by decide
theorem wf : ∀ c ∈ ([102, 117, 110] : List Nat), lt c = true := by decide
/-- a kind's text, read from the left, tells the kind -/
theorem text_read : ∀ (k m : Kd) (r s : List Nat), k.good → m.good → Stop r → Stop s → cs k.text ++ r = cs m.text ++ s → k = m ∧ r = s := by
  intro k
  induction k with
  | nm x =>
    intro m r s gk gm hr hs e
    have hx := nm_lt gk
    cases m with
    | nm y =>
      obtain ⟨e1, e2⟩ := letters_eq hx (nm_lt gm) hr.no hs.no e
      exact ⟨by rw [show x = y by
        cases x with | mk a => cases y with | mk b => cases a with | mk l => cases b with | mk l' => simp at e1; rw [e1]], e2⟩
    | ls a =>
      rw [cs_ls, List.append_assoc, List.cons_append] at e
      exact absurd (letters_eq hx wl hr.no br_no e).2 (hr.nb _)
    | pr a b =>
      rw [cs_pr, List.append_assoc, List.cons_append] at e
      exact absurd (letters_eq hx wp hr.no br_no e).2 (hr.nb _)
    | fn a b =>
      rw [cs_fn, List.append_assoc, List.cons_append] at e
      exact absurd (letters_eq hx wf hr.no br_no e).2 (hr.nb _)
  | ls a ih =>
    intro m r s gk gm hr hs e
    rw [cs_ls, List.append_assoc, List.cons_append] at e
    cases m with
    | nm y => exact absurd (letters_eq (nm_lt gm) wl hs.no br_no e.symm).2 (hs.nb _)
    | ls b =>
      rw [cs_ls, List.append_assoc, List.cons_append] at e
      have e1 : (cs a.text ++ [41]) ++ r = (cs b.text ++ [41]) ++ s := (List.cons.inj (letters_eq wl wl br_no br_no e).2).2
      rw [List.append_assoc, List.append_assoc] at e1
      obtain ⟨h1, h2⟩ := ih b _ _ gk gm (stop_br _) (stop_br _) e1
      rw [h1]
      exact ⟨rfl, by simpa using h2⟩
    | pr b c =>
      rw [cs_pr, List.append_assoc, List.cons_append] at e
      exact absurd (letters_eq wl wp br_no br_no e).1 (by decide)
    | fn b c =>
      rw [cs_fn, List.append_assoc, List.cons_append] at e
      exact absurd (letters_eq wl wf br_no br_no e).1 (by decide)
  | pr a b iha ihb =>
    intro m r s gk gm hr hs e
    rw [cs_pr, List.append_assoc, List.cons_append] at e
    cases m with
    | nm y => exact absurd (letters_eq (nm_lt gm) wp hs.no br_no e.symm).2 (hs.nb _)
    | ls c =>
      rw [cs_ls, List.append_assoc, List.cons_append] at e
      exact absurd (letters_eq wp wl br_no br_no e).1 (by decide)
    | pr c d =>
      rw [cs_pr, List.append_assoc, List.cons_append] at e
      have e1 : (cs a.text ++ 44 :: (cs b.text ++ [41])) ++ r = (cs c.text ++ 44 :: (cs d.text ++ [41])) ++ s := (List.cons.inj (letters_eq wp wp br_no br_no e).2).2
      rw [List.append_assoc, List.append_assoc, List.cons_append, List.cons_append, List.append_assoc, List.append_assoc] at e1
      obtain ⟨h1, h2⟩ := iha c _ _ gk.1 gm.1 (stop_co _) (stop_co _) e1
      simp only [List.cons.injEq, true_and] at h2
      obtain ⟨h3, h4⟩ := ihb d _ _ gk.2 gm.2 (stop_br _) (stop_br _) h2
      rw [h1, h3]
      exact ⟨rfl, by simpa using h4⟩
    | fn c d =>
      rw [cs_fn, List.append_assoc, List.cons_append] at e
      exact absurd (letters_eq wp wf br_no br_no e).1 (by decide)
  | fn a b iha ihb =>
    intro m r s gk gm hr hs e
    rw [cs_fn, List.append_assoc, List.cons_append] at e
    cases m with
    | nm y => exact absurd (letters_eq (nm_lt gm) wf hs.no br_no e.symm).2 (hs.nb _)
    | ls c =>
      rw [cs_ls, List.append_assoc, List.cons_append] at e
      exact absurd (letters_eq wf wl br_no br_no e).1 (by decide)
    | pr c d =>
      rw [cs_pr, List.append_assoc, List.cons_append] at e
      exact absurd (letters_eq wf wp br_no br_no e).1 (by decide)
    | fn c d =>
      rw [cs_fn, List.append_assoc, List.cons_append] at e
      have e1 : (cs a.text ++ 44 :: (cs b.text ++ [41])) ++ r = (cs c.text ++ 44 :: (cs d.text ++ [41])) ++ s := (List.cons.inj (letters_eq wf wf br_no br_no e).2).2
      rw [List.append_assoc, List.append_assoc, List.cons_append, List.cons_append, List.append_assoc, List.append_assoc] at e1
      obtain ⟨h1, h2⟩ := iha c _ _ gk.1 gm.1 (stop_co _) (stop_co _) e1
      simp only [List.cons.injEq, true_and] at h2
      obtain ⟨h3, h4⟩ := ihb d _ _ gk.2 gm.2 (stop_br _) (stop_br _) h2
      rw [h1, h3]
      exact ⟨rfl, by simpa using h4⟩
theorem text_inj {k m : Kd} (gk : k.good) (gm : m.good) (e : k.text = m.text) : k = m :=
  (text_read k m [] [] gk gm (.inl rfl) (.inl rfl) (by rw [e])).1
theorem text_len {k : Kd} (g : k.good) : k.text.length ≤ 14 * k.size := by
  have app : ∀ a b : Str, (a ++ b).length = a.length + b.length := fun a b => by rw [str_len, str_len, str_len, app_list, List.length_append]
  have l1 : ("list" : Str).length = 4 := by decide +kernel
  have l2 : ("pair" : Str).length = 4 := by decide +kernel
  have l3 : ("fun" : Str).length = 3 := by decide +kernel
  have l4 : ("(" : Str).length = 1 := by decide +kernel
  have l5 : (")" : Str).length = 1 := by decide +kernel
  have l6 : ("," : Str).length = 1 := by decide +kernel
  induction k with
  | nm x => have := g.1.le; simp only [text, size]; omega
  | ls a ih => have := ih g; simp only [text, size, app, l1, l4, l5]; omega
  | pr a b iha ihb => have := iha g.1; have := ihb g.2; simp only [text, size, app, l2, l4, l5, l6]; omega
  | fn a b iha ihb => have := iha g.1; have := ihb g.2; simp only [text, size, app, l3, l4, l5, l6]; omega
def row (k : Kd) : Int × Str := (k.size, k.text)
def kle (a b : Kd) : Bool := ple a.row b.row
def ord (xs : List Kd) : List Kd := xs.eraseDups.mergeSort kle
theorem row_inj {a b : Kd} (ga : a.good) (gb : b.good) (e : a.row = b.row) : a = b := text_inj ga gb (congrArg Prod.snd e)
theorem ord_mem {xs : List Kd} {k : Kd} : k ∈ ord xs ↔ k ∈ xs := by
  rw [ord, (List.mergeSort_perm _ _).mem_iff, List.mem_eraseDups]
theorem dups_nodup : ∀ (n : Nat) (l : List Kd), l.length ≤ n → l.eraseDups.Nodup
  | _, [], _ => by simp
  | 0, a :: l, h => by simp at h
  | n + 1, a :: l, h => by
    rw [List.eraseDups_cons]
    refine List.nodup_cons.mpr ⟨fun z => ?_, dups_nodup n _ ?_⟩
    · have := (List.mem_filter.mp (List.mem_eraseDups.mp z)).2
      simp at this
    · have := List.length_filter_le (fun b => !b == a) l
      simp only [List.length_cons] at h
      omega
/-- two arrangements without repetition of the same good kinds are sorted alike -/
theorem sort_same {l m : List Kd} (gl : ∀ k ∈ l, k.good) (nl : l.Nodup) (nm' : m.Nodup) (h : ∀ k, k ∈ l ↔ k ∈ m) : l.mergeSort kle = m.mergeSort kle := by
  have pm : l.Perm m := (List.perm_ext_iff_of_nodup nl nm').mpr h
  refine List.Perm.eq_of_pairwise (le := fun a b => kle a b = true) (fun a b ha hb h1 h2 => ?_) (List.pairwise_mergeSort (le := kle) (fun a b c => ple_trans a.row b.row c.row) (fun a b => ple_total a.row b.row) l) (List.pairwise_mergeSort (le := kle) (fun a b c => ple_trans a.row b.row c.row) (fun a b => ple_total a.row b.row) m) ((List.mergeSort_perm l kle).trans (pm.trans (List.mergeSort_perm m kle).symm))
  have ha' := (List.mergeSort_perm l kle).mem_iff.mp ha
  have hb' := (h b).mpr ((List.mergeSort_perm m kle).mem_iff.mp hb)
  exact row_inj (gl a ha') (gl b hb') (ple_anti h1 h2)
theorem ord_same {xs ys : List Kd} (g : ∀ k ∈ xs, k.good) (h : ∀ k, k ∈ xs ↔ k ∈ ys) : ord xs = ord ys :=
  sort_same (fun k hk => g k (List.mem_eraseDups.mp hk)) (dups_nodup _ xs (Nat.le_refl _)) (dups_nodup _ ys (Nat.le_refl _)) fun k => by rw [List.mem_eraseDups, List.mem_eraseDups, h k]
theorem dups_len : ∀ (n : Nat) (l : List Kd), l.length ≤ n → l.eraseDups.length ≤ l.length
  | _, [], _ => by simp
  | 0, a :: l, h => by simp at h
  | n + 1, a :: l, h => by
    rw [List.eraseDups_cons]
    have z := List.length_filter_le (fun b => !b == a) l
    simp only [List.length_cons] at h ⊢
    have := dups_len n (l.filter fun b => !b == a) (by omega)
    omega
theorem ord_len (xs : List Kd) : (ord xs).length ≤ xs.length := by
  rw [ord, List.length_mergeSort]
  exact dups_len _ xs (Nat.le_refl _)
theorem bel (k : Kd) (n : Nat) : Bel n k.enc := by
  induction k with
  | nm x => exact .str x
  | ls a ih => exact .tup (.cons (.str _) (.cons ih .nil))
  | pr a b iha ihb => exact .tup (.cons (.str _) (.cons iha (.cons ihb .nil)))
  | fn a b iha ihb => exact .tup (.cons (.str _) (.cons iha (.cons ihb .nil)))
theorem bels (l : List Kd) (n : Nat) : Bels n (l.map enc) := .of fun d hd => by
  obtain ⟨k, _, rfl⟩ := List.mem_map.mp hd
  exact bel k n
def dat : Kd → PyData
  | nm x => .str x
  | ls a => .tuple [.str "list", a.dat]
  | pr a b => .tuple [.str "pair", a.dat, b.dat]
  | fn a b => .tuple [.str "fun", a.dat, b.dat]
theorem cv_enc (f : Nat → Option PyData) (k : Kd) : toP f k.enc = some k.dat := by
  induction k with
  | nm x => rfl
  | ls a ih => simp only [enc, dat, toP, toPs, ih, Option.map_some]
  | pr a b iha ihb => simp only [enc, dat, toP, toPs, iha, ihb, Option.map_some]
  | fn a b iha ihb => simp only [enc, dat, toP, toPs, iha, ihb, Option.map_some]
theorem cvs_enc (f : Nat → Option PyData) : ∀ l : List Kd, toPs f (l.map enc) = some (l.map dat)
  | [] => rfl
  | k :: l => by simp only [List.map_cons, toPs, cv_enc, cvs_enc f l]
theorem word_sh {w : Str} (h : ssB 4 w = true) : Sh 42 0 (.str w) := sh_str (ss_of h)
theorem dg {k : Kd} (g : k.good) : Dg (160 * k.size) k.depth k.dat := by
  induction k with
  | nm x => exact ⟨(sh_str g.1).mono (by simp only [size]; omega) (Nat.le_refl _), rfl⟩
  | ls a ih =>
    have := ih g
    refine ⟨(sh2 ((word_sh (w := "list") (by decide +kernel)).mono (Nat.le_refl _) (Nat.zero_le a.depth)) this.sh).mono (by simp only [size]; omega) (by simp only [depth]; omega), ?_⟩
    simp only [dat, PyData.hasDict, PyData.hasDictAll, this.nd, Bool.or_self]
  | pr a b iha ihb =>
    have ha := iha g.1
    have hb := ihb g.2
    refine ⟨(sh3 ((word_sh (w := "pair") (by decide +kernel)).mono (Nat.le_refl _) (Nat.zero_le (max a.depth b.depth))) (ha.sh.mono (Nat.le_refl _) (by omega)) (hb.sh.mono (Nat.le_refl _) (by omega))).mono (by simp only [size]; omega) (by simp only [depth]; omega), ?_⟩
    simp only [dat, PyData.hasDict, PyData.hasDictAll, ha.nd, hb.nd, Bool.or_self]
  | fn a b iha ihb =>
    have ha := iha g.1
    have hb := ihb g.2
    refine ⟨(sh3 ((word_sh (w := "fun") (by decide +kernel)).mono (Nat.le_refl _) (Nat.zero_le (max a.depth b.depth))) (ha.sh.mono (Nat.le_refl _) (by omega)) (hb.sh.mono (Nat.le_refl _) (by omega))).mono (by simp only [size]; omega) (by simp only [depth]; omega), ?_⟩
    simp only [dat, PyData.hasDict, PyData.hasDictAll, ha.nd, hb.nd, Bool.or_self]
end Kd
end Bx
namespace Bx
open PySem PySem.Spec PyProof.Rows L2
noncomputable def bParts (cl : Str → List D → Hh → Res D) : Fs :=
  zRet (xIfe (yV (xBi .isi (xCons (xV 0) (xCons (xC (.val (.ty "tuple"))) (xNil))))) (xBi .nlist (xCons (xSlc (xV 0) (xSome (xC (.int 1))) (xNo)) (xNil))) (xNlst (xNil)))
noncomputable def bSize (cl : Str → List D → Hh → Res D) : Fs :=
  zRet (xBin addD (xC (.int 1)) (xBi .sum (xCons (xLcG lcF (iV (xFz (xCall 1 (cl "parts") (xCons (xV 0) (xNil))))) [1] (gN 1) (yYes) (xCall 1 (cl "size") (xCons (xV 1) (xNil)))) (xNil))))
noncomputable def bDepth (cl : Str → List D → Hh → Res D) : Fs :=
  zRet (xIfe (yV (xBi .isi (xCons (xV 0) (xCons (xC (.val (.ty "tuple"))) (xNil))))) (xBin addD (xC (.int 1)) (xBi .max (xCons (xLcG lcF (iV (xFz (xCall 1 (cl "parts") (xCons (xV 0) (xNil))))) [1] (gN 1) (yYes) (xCall 1 (cl "depth") (xCons (xV 1) (xNil)))) (xNil)))) (xC (.int 0)))
noncomputable def bLeaves (cl : Str → List D → Hh → Res D) : Fs :=
  zSeq (zIf (yV (xBi .isi (xCons (xV 0) (xCons (xC (.val (.ty "str"))) (xNil))))) (zRet (xNlst (xCons (xV 0) (xNil)))) (zNext))
    (zRet (xLc2 lcN (iV (xFz (xCall 1 (cl "parts") (xCons (xV 0) (xNil))))) [1, 2] (gN 1) (yYes) (iV (xFz (xCall 1 (cl "leaves") (xCons (xV 1) (xNil))))) [2] (gN 2) (yYes) (xV 2)))
noncomputable def bTextOf (cl : Str → List D → Hh → Res D) : Fs :=
  zSeq (zIf (yV (xBi .isi (xCons (xV 0) (xCons (xC (.val (.ty "str"))) (xNil))))) (zRet (xV 0)) (zNext))
    (zRet (xBin addD (xBin addD (xBin addD (xIdx (xV 0) (xC (.int 0))) (xC (.str "("))) (xStr1 joinD (xC (.str ",")) (xLcG lcF (iV (xFz (xCall 1 (cl "parts") (xCons (xV 0) (xNil))))) [1] (gN 1) (yYes) (xCall 1 (cl "text_of") (xCons (xV 1) (xNil)))))) (xC (.str ")"))))
noncomputable def bOrderOf (cl : Str → List D → Hh → Res D) : Fs :=
  zRet (xTup (xCons (xCall 1 (cl "size") (xCons (xV 0) (xNil))) (xCons (xCall 1 (cl "text_of") (xCons (xV 0) (xNil))) (xNil))))
noncomputable def bLesser (cl : Str → List D → Hh → Res D) : Fs :=
  zRet (xBin ltD (xCall 1 (cl "order_of") (xCons (xV 0) (xNil))) (xCall 1 (cl "order_of") (xCons (xV 1) (xNil))))
noncomputable def bOrdered (cl : Str → List D → Hh → Res D) : Fs :=
  zSeq (zSet 1 (xDc (iV (xV 0)) [2] (gN 2) (yYes) (xCall 1 (cl "text_of") (xCons (xV 2) (xNil))) (xV 2)))
    (zRet (xLcG lcN (iV (xBi .sorted (xCons (xLcG lcF (iK (xV 1)) [4] (gN 4) (yYes) (xTup (xCons (xCall 1 (cl "size") (xCons (xIdx (xV 1) (xV 4)) (xNil))) (xCons (xV 4) (xNil))))) (xNil)))) [3, 4] (gT2 3 4) (yYes) (xIdx (xV 1) (xV 4))))
noncomputable def bAllParts (cl : Str → List D → Hh → Res D) : Fs :=
  zSeq (zSet 1 (xNlst (xCons (xV 0) (xNil))))
    (zSeq (zFor (iV (xFz (xCall 1 (cl "parts") (xCons (xV 0) (xNil))))) (gN 2) (zExpr (xM mExt (xV 1) (xCons (xFz (xCall 1 (cl "all_parts") (xCons (xV 2) (xNil)))) (xNil)))))
    (zRet (xCall 1 (cl "ordered") (xCons (xGo (xV 1)) (xNil)))))
noncomputable def bAnyKind (cl : Str → List D → Hh → Res D) : Fs :=
  zSeq (zSet 3 (xCall 2 (cl "_law_take") (xCons (xV 0) (xCons (xC (.int 5)) (xNil)))))
    (zSeq (zIf (yOr (yV (xBin ltD (xV 2) (xC (.int 2)))) (yV (xBin ltD (xV 3) (xC (.int 2))))) (zRet (xCall 2 (cl "_law_one") (xCons (xV 0) (xCons (xV 1) (xNil))))) (zNext))
    (zSeq (zIf (yOr (yV (xBin eqD (xV 3) (xC (.int 2)))) (yV (xBin ltD (xV 2) (xC (.int 3))))) (zRet (xTup (xCons (xC (.str "list")) (xCons (xCall 3 (cl "_law_any_kind") (xCons (xV 0) (xCons (xV 1) (xCons (xBin subD (xV 2) (xC (.int 1))) (xNil))))) (xNil))))) (zNext))
    (zSeq (zSet 4 (xBin addD (xC (.int 1)) (xCall 2 (cl "_law_take") (xCons (xV 0) (xCons (xBin subD (xV 2) (xC (.int 2))) (xNil))))))
    (zSeq (zSet 5 (xIdx (xLst (xCons (xC (.str "pair")) (xCons (xC (.str "fun")) (xNil)))) (xBin subD (xV 3) (xC (.int 3)))))
    (zRet (xTup (xCons (xV 5) (xCons (xCall 3 (cl "_law_any_kind") (xCons (xV 0) (xCons (xV 1) (xCons (xV 4) (xNil))))) (xCons (xCall 3 (cl "_law_any_kind") (xCons (xV 0) (xCons (xV 1) (xCons (xBin subD (xBin subD (xV 2) (xC (.int 1))) (xV 4)) (xNil))))) (xNil))))))))))
noncomputable def bLSize (cl : Str → List D → Hh → Res D) : Fs :=
  zRet (xIfe (yV (xBi .isi (xCons (xV 0) (xCons (xC (.val (.ty "str"))) (xNil))))) (xC (.int 1)) (xBin addD (xC (.int 1)) (xBi .sum (xCons (xLcG lcF (iV (xSlc (xV 0) (xSome (xC (.int 1))) (xNo))) [1] (gN 1) (yYes) (xCall 1 (cl "_law_size") (xCons (xV 1) (xNil)))) (xNil)))))
noncomputable def bLText (cl : Str → List D → Hh → Res D) : Fs :=
  zSeq (zIf (yV (xBi .isi (xCons (xV 0) (xCons (xC (.val (.ty "str"))) (xNil))))) (zRet (xV 0)) (zNext))
    (zRet (xBin addD (xBin addD (xBin addD (xIdx (xV 0) (xC (.int 0))) (xC (.str "("))) (xStr1 joinD (xC (.str ",")) (xLcG lcF (iV (xSlc (xV 0) (xSome (xC (.int 1))) (xNo))) [1] (gN 1) (yYes) (xCall 1 (cl "_law_text") (xCons (xV 1) (xNil)))))) (xC (.str ")"))))
noncomputable def bLOrdered (cl : Str → List D → Hh → Res D) : Fs :=
  zSeq (zSet 1 (xSrtSet (xLcG lcF (iV (xV 0)) [3] (gN 3) (yYes) (xTup (xCons (xCall 1 (cl "_law_size") (xCons (xV 3) (xNil))) (xCons (xCall 1 (cl "_law_text") (xCons (xV 3) (xNil))) (xNil)))))))
    (zSeq (zSet 2 (xDictP (xLcG lcF (iV (xV 0)) [3] (gN 3) (yYes) (xTup (xCons (xCall 1 (cl "_law_text") (xCons (xV 3) (xNil))) (xCons (xV 3) (xNil)))))))
    (zRet (xLcG lcF (iV (xV 1)) [4, 5] (gT2 4 5) (yYes) (xIdx (xV 2) (xV 5)))))
noncomputable def bLDepth (cl : Str → List D → Hh → Res D) : Fs :=
  zRet (xIfe (yV (xBi .isi (xCons (xV 0) (xCons (xC (.val (.ty "str"))) (xNil))))) (xC (.int 0)) (xBin addD (xC (.int 1)) (xBi .max (xCons (xLcG lcF (iV (xSlc (xV 0) (xSome (xC (.int 1))) (xNo))) [1] (gN 1) (yYes) (xCall 1 (cl "_law_depth") (xCons (xV 1) (xNil)))) (xNil)))))
noncomputable def bLWithin (cl : Str → List D → Hh → Res D) : Fs :=
  zSeq (zSet 1 (xNlst (xCons (xV 0) (xNil))))
    (zSeq (zIf (yV (xBi .isi (xCons (xV 0) (xCons (xC (.val (.ty "tuple"))) (xNil))))) (zFor (iV (xSlc (xV 0) (xSome (xC (.int 1))) (xNo))) (gN 2) (zExpr (xM mExt (xV 1) (xCons (xFz (xCall 1 (cl "_law_within") (xCons (xV 2) (xNil)))) (xNil))))) (zNext))
    (zRet (xV 1)))
section
variable {α : Type} {ρ : Rho} {h : Hh} {i : Nat} {it : Fl} {e : Fn} {c : Ft} {xs : List α} {g f : α → D}
theorem xlc_map (hit : it ρ h = .ok (xs.map g) h) (hz : xs.length ≤ 1000) (he : ∀ x ∈ xs, e ((ρ.set i none).set i (some (g x))) h = .ok (f x) h) : xLcG lcF it [i] (gN i) yYes e ρ h = .ok (.lst (xs.map f)) h := by
  rw [lc_at, hit, bind_ok, if_pos (sz_of (by rw [List.length_map]; exact hz)), wipe1, lc_map he, noX_ok, bind_ok, lcF_at]
@[simp] theorem lcN_at {ds : List D} : lcN ds h = .ok (.ref h.length) (h ++ [.lst ds]) := id rfl
theorem xlc_filter {p : D → Bool} {ds : List D} (hit : it ρ h = .ok ds h) (hz : ds.length ≤ 1000) (hc : ∀ x ∈ ds, c ((ρ.set i none).set i (some x)) h = .ok (p x) h) (he : ∀ x ∈ ds, e ((ρ.set i none).set i (some x)) h = .ok x h) : xLcG lcF it [i] (gN i) c e ρ h = .ok (.lst (ds.filter p)) h := by
  rw [lc_at, hit, bind_ok, if_pos (sz_of hz), wipe1, lc_filter hc he, noX_ok, bind_ok, lcF_at]
theorem lc2_flat {t2 i2 : Nat} {it1 : Fl} {k : α → List D} (h1 : ∀ x ∈ xs, it1 (ρ.set i (some (g x))) h = .ok (k x) h) (h2 : ∀ x ∈ xs, ∀ y ∈ k x, e (((ρ.set i (some (g x))).set i2 none).set i2 (some y)) h = .ok y h) :
    lc2L (gN i) yYes it1 [i2] (gN i2) yYes e ρ (xs.map g) h = .ok (xs.flatMap k) h := by
  induction xs with
  | nil => rfl
  | cons a l ih =>
    simp only [List.map_cons, lc2L, gN_at, yYes_at, bind_ok, if_true]
    rw [h1 a (List.mem_cons_self ..)]
    simp only [bind_ok, wipe1]
    rw [lc_mapD (f := id) fun y hy => h2 a (List.mem_cons_self ..) y hy]
    simp only [bind_ok, List.map_id]
    rw [ih (fun x hx => h1 x (List.mem_cons_of_mem _ hx)) (fun x hx => h2 x (List.mem_cons_of_mem _ hx))]
    simp only [bind_ok, List.flatMap_cons]
theorem intsOf_fn {f : α → Int} (l : List α) : intsOf (l.map fun x => D.int (f x)) = some (l.map f) := by
  rw [show (l.map fun x => D.int (f x)) = (l.map f).map D.int by rw [List.map_map]; rfl, intsOf_map]
theorem strsOf_fn {f : α → Str} (l : List α) : strsOf (l.map fun x => D.str (f x)) = some (l.map f) := by
  rw [show (l.map fun x => D.str (f x)) = (l.map f).map D.str by rw [List.map_map]; rfl, strsOf_map]
end
/-- the defs of the program about kinds -/
structure Kf (T : Tab) : Prop where
  parts : T "parts" = some ⟨1, 1, bParts⟩
  size : T "size" = some ⟨1, 2, bSize⟩
  depth : T "depth" = some ⟨1, 2, bDepth⟩
  leaves : T "leaves" = some ⟨1, 3, bLeaves⟩
  text : T "text_of" = some ⟨1, 2, bTextOf⟩
  ordered : T "ordered" = some ⟨1, 5, bOrdered⟩
  all : T "all_parts" = some ⟨1, 3, bAllParts⟩
structure Lf (T : Tab) : Prop where
  size : T "_law_size" = some ⟨1, 2, bLSize⟩
  text : T "_law_text" = some ⟨1, 2, bLText⟩
  ordered : T "_law_ordered" = some ⟨1, 6, bLOrdered⟩
section
variable {T : Tab} {h : Hh} {ρ : Rho} {i j : Nat} {k : Kd}
open Kd
theorem enc_tup (k : Kd) : (∃ x, k = nm x) ∨ ∃ w, k.enc = .tup (.str w :: k.parts.map enc) := by
  cases k with
  | nm x => exact .inl ⟨x, rfl⟩
  | ls a => exact .inr ⟨"list", rfl⟩
  | pr a b => exact .inr ⟨"pair", rfl⟩
  | fn a b => exact .inr ⟨"fun", rfl⟩
theorem parts_len (k : Kd) : k.parts.length ≤ 2 := by cases k <;> simp [Kd.parts]
theorem parts_ok (K : Kf T) (k : Kd) : callN T (j + 1) "parts" [k.enc] h = .ok (.ref h.length) (h ++ [.lst (k.parts.map enc)]) := by
  rw [call_at K.parts rfl]
  have z : sz 0 = true := by decide
  rcases enc_tup k with ⟨x, rfl⟩ | ⟨w, e⟩
  · have : endC h (.ok (.ref h.length) (h ++ [.lst []])) = .ok (.ref h.length) (h ++ [O.lst []]) := endC_new (by simp) (Nat.le_refl _) (show Bels _ [] from .nil)
    simp [bParts, startR, enc, z, this, Kd.parts]
  · rw [e]
    have : endC h (.ok (.ref h.length) (h ++ [.lst (k.parts.map enc)])) = .ok (.ref h.length) (h ++ [O.lst (k.parts.map enc)]) := endC_new (by simp) (Nat.le_refl _) (show Bels _ _ from Kd.bels _ _)
    have nl : ∀ ds : List D, biS .nlist [.tup ds] h = .ok (.ref h.length) (h ++ [.lst ds]) := fun ds => id rfl
    simp [bParts, startR, nl, this]
theorem fparts (K : Kf T) (k : Kd) (e : ρ[i]? = some (some k.enc)) : iV (xFz (xCall 1 (callN T (j + 1) "parts") (xCons (xV i) xNil))) ρ h = .ok (k.parts.map enc) h := by
  rw [iV_at, fz_new (ds := k.parts.map enc) (by simp [e, parts_ok K]) (Kd.bels _ _), bind_ok, items_lst]
theorem slc_parts (e : ρ[i]? = some (some k.enc)) (hk : ∀ x, k ≠ nm x) : iV (xSlc (xV i) (xSome (xC (.int 1))) xNo) ρ h = .ok (k.parts.map enc) h := by
  rcases enc_tup k with ⟨x, rfl⟩ | ⟨w, e1⟩
  · exact absurd rfl (hk x)
  · rw [e1] at e
    simp [e]
theorem size_sum (k : Kd) : (k.size : Int) = 1 + (k.parts.map fun p => (p.size : Int)).sum := by
  cases k <;> simp [Kd.size, Kd.parts]
theorem part_depth {k a : Kd} (h : a ∈ k.parts) : a.depth < k.depth := by
  cases k <;> simp [Kd.parts] at h
  · subst h; simp only [Kd.depth]; omega
  · rcases h with rfl | rfl <;> simp only [Kd.depth] <;> omega
  · rcases h with rfl | rfl <;> simp only [Kd.depth] <;> omega
theorem part_size {k a : Kd} (h : a ∈ k.parts) : a.size < k.size := by
  cases k <;> simp [Kd.parts] at h
  · subst h; simp only [Kd.size]; omega
  · rcases h with rfl | rfl <;> simp only [Kd.size] <;> omega
  · rcases h with rfl | rfl <;> simp only [Kd.size] <;> omega
theorem part_good {k a : Kd} (g : k.good) (h : a ∈ k.parts) : a.good := by
  cases k <;> simp [Kd.parts] at h
  · subst h; exact g
  · rcases h with rfl | rfl
    · exact g.1
    · exact g.2
  · rcases h with rfl | rfl
    · exact g.1
    · exact g.2
theorem size_ok (K : Kf T) : ∀ (n : Nat) (k : Kd), k.depth + 2 ≤ n → callN T n "size" [k.enc] h = .ok (.int k.size) h
  | 0, k, hn => by omega
  | 1, k, hn => by omega
  | n + 2, k, hn => by
    rw [call_at K.size rfl]
    have lc := xlc_map (i := 1) (e := xCall 1 (callN T (n + 1) "size") (xCons (xV 1) xNil)) (f := fun p => D.int (p.size : Int)) (fparts K k (ρ := [some k.enc, none]) (i := 0) (j := n) (h := h) rfl) (by have := parts_len k; omega)
      (fun a ha => by simp [size_ok K (n + 1) a (by have := part_depth ha; omega)])
    have sm : biS .sum [.lst (k.parts.map fun p => D.int (p.size : Int))] h = .ok (.int (k.parts.map fun p => (p.size : Int)).sum) h := by simp only [biS, bInts, asL, intsOf_fn]
    simp [bSize, startR, -lc_at, lc, sm, size_sum k]
theorem lsize_ok (L : Lf T) : ∀ (n : Nat) (k : Kd), k.depth + 1 ≤ n → callN T n "_law_size" [k.enc] h = .ok (.int k.size) h
  | 0, k, hn => by omega
  | n + 1, k, hn => by
    rw [call_at L.size rfl]
    by_cases hk : ∃ x, k = nm x
    · obtain ⟨x, rfl⟩ := hk
      simp [bLSize, startR, enc, Kd.size]
    · have hk' : ∀ x, k ≠ nm x := fun x e => hk ⟨x, e⟩
      have lc := xlc_map (i := 1) (e := xCall 1 (callN T n "_law_size") (xCons (xV 1) xNil)) (f := fun p => D.int (p.size : Int)) (slc_parts (k := k) (ρ := [some k.enc, none]) (i := 0) (h := h) rfl hk') (by have := parts_len k; omega)
        (fun a ha => by simp [lsize_ok L n a (by have := part_depth ha; omega)])
      have sm : biS .sum [.lst (k.parts.map fun p => D.int (p.size : Int))] h = .ok (.int (k.parts.map fun p => (p.size : Int)).sum) h := by simp only [biS, bInts, asL, intsOf_fn]
      have ns : biS .isi [k.enc, .val (.ty "str")] h = .ok (.bl false) h := by
        rcases enc_tup k with z | ⟨w, e⟩
        · exact absurd z hk
        · rw [e]; simp
      simp [bLSize, startR, -lc_at, lc, sm, ns, size_sum k]
theorem depth_max {k : Kd} (hk : ∀ x, k ≠ nm x) : ∃ m : Int, maxI (k.parts.map fun p => (p.depth : Int)) = some m ∧ (k.depth : Int) = 1 + m := by
  cases k with
  | nm x => exact absurd rfl (hk x)
  | ls a => exact ⟨a.depth, rfl, by simp only [Kd.depth]; omega⟩
  | pr a b => exact ⟨max (a.depth : Int) b.depth, rfl, by simp only [Kd.depth]; omega⟩
  | fn a b => exact ⟨max (a.depth : Int) b.depth, rfl, by simp only [Kd.depth]; omega⟩
theorem depth_ok (K : Kf T) : ∀ (n : Nat) (k : Kd), k.depth + 2 ≤ n → callN T n "depth" [k.enc] h = .ok (.int k.depth) h
  | 0, k, hn => by omega
  | 1, k, hn => by omega
  | n + 2, k, hn => by
    rw [call_at K.depth rfl]
    by_cases hk : ∃ x, k = nm x
    · obtain ⟨x, rfl⟩ := hk
      simp [bDepth, startR, enc, Kd.depth]
    · have hk' : ∀ x, k ≠ nm x := fun x e => hk ⟨x, e⟩
      have lc := xlc_map (i := 1) (e := xCall 1 (callN T (n + 1) "depth") (xCons (xV 1) xNil)) (f := fun p => D.int (p.depth : Int)) (fparts K k (ρ := [some k.enc, none]) (i := 0) (j := n) (h := h) rfl) (by have := parts_len k; omega)
        (fun a ha => by simp [depth_ok K (n + 1) a (by have := part_depth ha; omega)])
      obtain ⟨m, e1, e2⟩ := depth_max hk'
      have sm : biS .max [.lst (k.parts.map fun p => D.int (p.depth : Int))] h = .ok (.int m) h := by simp only [biS, bInts, asL, intsOf_fn, optI, e1]
      have ns : biS .isi [k.enc, .val (.ty "tuple")] h = .ok (.bl true) h := by
        rcases enc_tup k with z | ⟨w, e⟩
        · exact absurd z hk
        · rw [e]; simp
      simp [bDepth, startR, -lc_at, lc, sm, ns, e2]
theorem ldepth_ok (hD : T "_law_depth" = some ⟨1, 2, bLDepth⟩) : ∀ (n : Nat) (k : Kd), k.depth + 1 ≤ n → callN T n "_law_depth" [k.enc] h = .ok (.int k.depth) h
  | 0, k, hn => by omega
  | n + 1, k, hn => by
    rw [call_at hD rfl]
    by_cases hk : ∃ x, k = nm x
    · obtain ⟨x, rfl⟩ := hk
      simp [bLDepth, startR, enc, Kd.depth]
    · have hk' : ∀ x, k ≠ nm x := fun x e => hk ⟨x, e⟩
      have lc := xlc_map (i := 1) (e := xCall 1 (callN T n "_law_depth") (xCons (xV 1) xNil)) (f := fun p => D.int (p.depth : Int)) (slc_parts (k := k) (ρ := [some k.enc, none]) (i := 0) (h := h) rfl hk') (by have := parts_len k; omega)
        (fun a ha => by simp [ldepth_ok hD n a (by have := part_depth ha; omega)])
      obtain ⟨m, e1, e2⟩ := depth_max hk'
      have sm : biS .max [.lst (k.parts.map fun p => D.int (p.depth : Int))] h = .ok (.int m) h := by simp only [biS, bInts, asL, intsOf_fn, optI, e1]
      have ns : biS .isi [k.enc, .val (.ty "str")] h = .ok (.bl false) h := by
        rcases enc_tup k with z | ⟨w, e⟩
        · exact absurd z hk
        · rw [e]; simp
      simp [bLDepth, startR, -lc_at, lc, sm, ns, e2]
end
end Bx
namespace Bx
open PySem PySem.Spec PyProof.Rows L2 Kd
section
variable {T : Tab} {h : Hh} {ρ : Rho} {i j : Nat} {k : Kd}
theorem add_str {x y : Str} (hl : x.length + y.length ≤ 1000) : addD (.str x) (.str y) h = .ok (.str (x ++ y)) h := by
  simp only [addD, sz_of hl, if_true]
theorem len_app (a b : Str) : (a ++ b).length = a.length + b.length := by rw [str_len, str_len, str_len, app_list, List.length_append]
theorem text_join {k : Kd} (hk : ∀ x, k ≠ nm x) : ∃ w : Str, k.enc = .tup (.str w :: k.parts.map enc) ∧ k.text = w ++ ("(" : Str) ++ Txt.join "," (k.parts.map text) ++ ")" ∧ w.length ≤ 4 := by
  cases k with
  | nm x => exact absurd rfl (hk x)
  | ls a => exact ⟨"list", rfl, rfl, by decide +kernel⟩
  | pr a b => exact ⟨"pair", rfl, rfl, by decide +kernel⟩
  | fn a b => exact ⟨"fun", rfl, rfl, by decide +kernel⟩
theorem parts_text {k : Kd} (g : k.good) : ((k.parts.map text).map (·.length)).sum + k.parts.length * 1 ≤ 14 * k.size := by
  cases k with
  | nm x => simp [Kd.parts]
  | ls a => have := text_len (k := a) g; simp only [Kd.parts, Kd.size, List.map_cons, List.map_nil, List.sum_cons, List.sum_nil, List.length_cons, List.length_nil]; omega
  | pr a b => have := text_len (k := a) g.1; have := text_len (k := b) g.2; simp only [Kd.parts, Kd.size, List.map_cons, List.map_nil, List.sum_cons, List.sum_nil, List.length_cons, List.length_nil]; omega
  | fn a b => have := text_len (k := a) g.1; have := text_len (k := b) g.2; simp only [Kd.parts, Kd.size, List.map_cons, List.map_nil, List.sum_cons, List.sum_nil, List.length_cons, List.length_nil]; omega
theorem ntype {k : Kd} (hk : ∀ x, k ≠ nm x) : biS .isi [k.enc, .val (.ty "str")] h = .ok (.bl false) h ∧ biS .isi [k.enc, .val (.ty "tuple")] h = .ok (.bl true) h := by
  obtain ⟨w, e, _⟩ := text_join hk
  rw [e]
  simp
theorem is_nm (k : Kd) : (∃ x, k = nm x) ∨ ∀ x, k ≠ nm x := by
  cases k with
  | nm x => exact .inl ⟨x, rfl⟩
  | _ => exact .inr fun x e => by cases e
/-- the end of both texts -/
theorem text_end {it : Fl} {e : Fn} (hk : ∀ x, k ≠ nm x) (g : k.good) (hs : k.size ≤ 60) (hit : it [some k.enc, none] h = .ok (k.parts.map enc) h) (he : ∀ a ∈ k.parts, e [some k.enc, some a.enc] h = .ok (.str a.text) h) :
    zRet (xBin addD (xBin addD (xBin addD (xIdx (xV 0) (xC (.int 0))) (xC (.str "("))) (xStr1 joinD (xC (.str ",")) (xLcG lcF it [1] (gN 1) (yYes) e))) (xC (.str ")"))) [some k.enc, none] h = .rt (.str k.text) h := by
  obtain ⟨w, e1, e2, hw⟩ := text_join hk
  have lc := xlc_map (i := 1) (e := e) (f := fun p : Kd => D.str p.text) hit (by have := parts_len k; omega) (fun a ha => by simpa using he a ha)
  have hp := parts_text g
  have l4 : ("(" : Str).length = 1 := by decide +kernel
  have l5 : (")" : Str).length = 1 := by decide +kernel
  have l6 : ("," : Str).length = 1 := by decide +kernel
  have jn : joinD "," (.lst (k.parts.map fun p => D.str p.text)) h = .ok (.str (Txt.join "," (k.parts.map text))) h := by
    rw [show (k.parts.map fun p => D.str p.text) = (k.parts.map text).map D.str by rw [List.map_map]; rfl]
    exact join_strs (by rw [l6, List.length_map]; omega)
  have tl := text_len g
  rw [e2, len_app, len_app, len_app] at tl
  have i0 : idxD k.enc (.int 0) h = .ok (.str w) h := by rw [e1]; simp
  simp only [zRet_at, xBin_at, xIdx_at, xV_at, xC_at, List.getElem?_cons_zero, bind_ok, xStr1_at, i0]
  rw [add_str (by omega), bind_ok, lc]
  simp only [bind_ok, jn]
  rw [add_str (by rw [len_app]; omega), bind_ok, add_str (by rw [len_app, len_app]; omega)]
  simp only [of_ok, e2]
theorem text_ok (K : Kf T) : ∀ (n : Nat) (k : Kd), k.good → k.size ≤ 60 → k.depth + 2 ≤ n → callN T n "text_of" [k.enc] h = .ok (.str k.text) h
  | 0, k, _, _, hn => by omega
  | 1, k, _, _, hn => by omega
  | n + 2, k, g, hs, hn => by
    rw [call_at K.text rfl]
    rcases is_nm k with ⟨x, rfl⟩ | hk
    · simp [bTextOf, startR, enc, Kd.text, zSeq_at]
    · have e := text_end (e := xCall 1 (callN T (n + 1) "text_of") (xCons (xV 1) xNil)) hk g hs (fparts K k (ρ := [some k.enc, none]) (i := 0) (j := n) (h := h) rfl)
        (fun a ha => by simp [text_ok K (n + 1) a (part_good g ha) (by have := part_size ha; omega) (by have := part_depth ha; omega)])
      show endC h (endB (zSeq _ _ _ _)) = _
      rw [seq_nx (ρ1 := [some k.enc, none]) (h1 := h) (by simp [startR, (ntype hk).1]), e]
      simp
theorem ltext_ok (L : Lf T) : ∀ (n : Nat) (k : Kd), k.good → k.size ≤ 60 → k.depth + 1 ≤ n → callN T n "_law_text" [k.enc] h = .ok (.str k.text) h
  | 0, k, _, _, hn => by omega
  | n + 1, k, g, hs, hn => by
    rw [call_at L.text rfl]
    rcases is_nm k with ⟨x, rfl⟩ | hk
    · simp [bLText, startR, enc, Kd.text, zSeq_at]
    · have e := text_end (e := xCall 1 (callN T n "_law_text") (xCons (xV 1) xNil)) hk g hs (slc_parts (k := k) (ρ := [some k.enc, none]) (i := 0) (h := h) rfl hk)
        (fun a ha => by simp [ltext_ok L n a (part_good g ha) (by have := part_size ha; omega) (by have := part_depth ha; omega)])
      show endC h (endB (zSeq _ _ _ _)) = _
      rw [seq_nx (ρ1 := [some k.enc, none]) (h1 := h) (by simp [startR, (ntype hk).1]), e]
      simp
theorem leaves_parts {k : Kd} (hk : ∀ x, k ≠ nm x) : k.parts.flatMap (fun p => p.leaves.map D.str) = k.leaves.map D.str := by
  cases k with
  | nm x => exact absurd rfl (hk x)
  | _ => simp [Kd.parts, Kd.leaves]
theorem leaves_len (k : Kd) : k.leaves.length ≤ k.size := by
  induction k with
  | nm x => simp [Kd.leaves, Kd.size]
  | ls a ih => simp only [Kd.leaves, Kd.size]; omega
  | pr a b iha ihb => simp only [Kd.leaves, Kd.size, List.length_append]; omega
  | fn a b iha ihb => simp only [Kd.leaves, Kd.size, List.length_append]; omega
theorem bels_str (l : List Str) (n : Nat) : Bels n (l.map D.str) := .of fun d hd => by
  obtain ⟨x, _, rfl⟩ := List.mem_map.mp hd
  exact .str x
theorem leaves_ok (K : Kf T) : ∀ (n : Nat) (k : Kd) (h : Hh), k.size ≤ 60 → k.depth + 2 ≤ n → callN T n "leaves" [k.enc] h = .ok (.ref h.length) (h ++ [.lst (k.leaves.map .str)])
  | 0, k, h, _, hn => by omega
  | 1, k, h, _, hn => by omega
  | n + 2, k, h, hs, hn => by
    rw [call_at K.leaves rfl]
    have fin : endC h (.ok (.ref h.length) (h ++ [.lst (k.leaves.map D.str)])) = .ok (.ref h.length) (h ++ [O.lst (k.leaves.map D.str)]) := endC_new (by simp) (Nat.le_refl _) (bels_str _ _)
    rcases is_nm k with ⟨x, rfl⟩ | hk
    · have z : sz 1 = true := by decide
      simp only [Kd.leaves, List.map_cons, List.map_nil] at fin
      simp [bLeaves, startR, enc, Kd.leaves, zSeq_at, z, fin]
    · have it := fparts K k (ρ := [some k.enc, none, none]) (i := 0) (j := n) (h := h) rfl
      have fl := lc2_flat (t2 := 0) (i := 1) (i2 := 2) (it1 := iV (xFz (xCall 1 (callN T (n + 1) "leaves") (xCons (xV 1) xNil)))) (e := xV 2) (ρ := [some k.enc, none, none]) (h := h) (xs := k.parts) (g := enc) (k := fun p => p.leaves.map D.str)
        (fun a ha => by
          have e1 := leaves_ok K (n + 1) a h (by have := part_size ha; omega) (by have := part_depth ha; omega)
          rw [iV_at, fz_new (ds := a.leaves.map D.str) (by simp [e1]) (bels_str _ _), bind_ok, items_lst])
        (fun a ha y hy => by simp)
      rw [leaves_parts hk] at fl
      have hz : sz (k.leaves.map D.str).length = true := sz_of (by rw [List.length_map]; have := leaves_len k; omega)
      have xx : xLc2 lcN (iV (xFz (xCall 1 (callN T (n + 1) "parts") (xCons (xV 0) (xNil))))) [1, 2] (gN 1) (yYes) (iV (xFz (xCall 1 (callN T (n + 1) "leaves") (xCons (xV 1) (xNil))))) [2] (gN 2) (yYes) (xV 2) [some k.enc, none, none] h = .ok (.ref h.length) (h ++ [.lst (k.leaves.map D.str)]) := by
        simp only [xLc2, lcE2, it, bind_ok, wipeR, List.set_cons_succ, List.set_cons_zero, fl, szL, hz, if_true, noX_ok, lcN_at]
      show endC h (endB (zSeq _ _ _ _)) = _
      rw [seq_nx (ρ1 := [some k.enc, none, none]) (h1 := h) (by simp [startR, (ntype hk).1])]
      simp only [zRet_at, xx, of_ok, endB_rt, fin]
def ents (es : List Kd) : List (Key × D) := es.map fun k => (.inr k.text, k.enc)
theorem dput_ents {es : List Kd} {k : Kd} (ge : ∀ a ∈ es, a.good) (g : k.good) : dput (ents es) (.inr k.text) k.enc = if k ∈ es then ents es else ents (es ++ [k]) := by
  have same : ∀ a ∈ es, ((Sum.inr a.text : Key) = .inr k.text ↔ a = k) := fun a ha => ⟨fun e => text_inj (ge a ha) g (Sum.inr.inj e), fun e => by rw [e]⟩
  have any : ((ents es).any fun p => decide (p.1 = (.inr k.text : Key))) = decide (k ∈ es) := by
    rw [Bool.eq_iff_iff]
    simp only [ents, List.any_map, List.any_eq_true, Function.comp, decide_eq_true_eq]
    exact ⟨fun ⟨a, ha, e⟩ => (same a ha).mp e ▸ ha, fun hk => ⟨k, hk, rfl⟩⟩
  unfold dput
  rw [any]
  by_cases hk : k ∈ es
  · simp only [hk, decide_true, if_true]
    unfold ents
    rw [List.map_map]
    refine List.map_congr_left fun a ha => ?_
    simp only [Function.comp]
    by_cases e : a = k
    · rw [if_pos ((same a ha).mpr e), e]
    · rw [if_neg fun z => e ((same a ha).mp z)]
  · simp only [hk, decide_false, Bool.false_eq_true, if_false]
    simp [ents]
theorem fold_ents : ∀ (xs acc : List Kd), (∀ a ∈ acc, a.good) → (∀ a ∈ xs, a.good) → acc.Nodup → ∃ es, xs.foldl (fun acc k => dput acc (.inr k.text) k.enc) (ents acc) = ents es ∧ es.Nodup ∧ ∀ a, a ∈ es ↔ a ∈ acc ∨ a ∈ xs
  | [], acc, _, _, nd => ⟨acc, rfl, nd, fun a => by simp⟩
  | x :: xs, acc, ga, gx, nd => by
    rw [List.foldl_cons, dput_ents ga (gx x (by simp))]
    by_cases hk : x ∈ acc
    · rw [if_pos hk]
      obtain ⟨es, e, n1, m1⟩ := fold_ents xs acc ga (fun a h => gx a (by simp [h])) nd
      refine ⟨es, e, n1, fun a => ?_⟩
      rw [m1 a, List.mem_cons]
      constructor
      · rintro (h | h)
        · exact .inl h
        · exact .inr (.inr h)
      · rintro (h | rfl | h)
        · exact .inl h
        · exact .inl hk
        · exact .inr h
    · rw [if_neg hk]
      obtain ⟨es, e, n1, m1⟩ := fold_ents xs (acc ++ [x]) (fun a h => by
        rcases List.mem_append.mp h with h | h
        · exact ga a h
        · rw [List.mem_singleton.mp h]; exact gx x (by simp)) (fun a h => gx a (by simp [h])) (by
        rw [List.nodup_append]
        refine ⟨nd, by simp, fun a ha b hb => ?_⟩
        rw [List.mem_singleton.mp hb]
        exact fun z => hk (z ▸ ha))
      refine ⟨es, e, n1, fun a => ?_⟩
      rw [m1 a, List.mem_append, List.mem_singleton, List.mem_cons]
      exact or_assoc
theorem dfind_ents {es : List Kd} (ge : ∀ a ∈ es, a.good) {k : Kd} (hk : k ∈ es) : dfind (ents es) (.inr k.text) = some k.enc := by
  induction es with
  | nil => cases hk
  | cons a l ih =>
    simp only [dfind, ents, List.map_cons, List.find?_cons]
    by_cases e : a = k
    · subst e
      simp
    · have ne : ¬ ((Sum.inr a.text : Key) = .inr k.text) := fun z => e (text_inj (ge a (by simp)) (ge k hk) (Sum.inr.inj z))
      rw [decide_eq_false ne]
      exact ih (fun b hb => ge b (by simp [hb])) ((List.mem_cons.mp hk).resolve_left fun z => e z.symm)
theorem idx_dct {kds : List (Key × D)} {x : Str} {d : D} (e : dfind kds (.inr x) = some d) : idxD (.dct kds) (.str x) h = .ok d h := by
  simp only [idxD, asD, toK, e]
theorem dc_map {i : Nat} {ek ev : Fn} {xs : List Kd} (h1 : ∀ a ∈ xs, ek (ρ.set i (some a.enc)) h = .ok (.str a.text) h) (h2 : ∀ a ∈ xs, ev (ρ.set i (some a.enc)) h = .ok a.enc h) (acc : List (Key × D)) :
    dcL (gN i) yYes ek ev ρ (xs.map enc) acc h = .ok (xs.foldl (fun acc k => dput acc (.inr k.text) k.enc) acc) h := by
  induction xs generalizing acc with
  | nil => rfl
  | cons a l ih =>
    simp only [List.map_cons, dcL, gN_at, yYes_at, bind_ok, if_true, h1 a (by simp), h2 a (by simp), toK, List.foldl_cons]
    exact ih (fun b hb => h1 b (by simp [hb])) (fun b hb => h2 b (by simp [hb])) _
theorem toDs_rows (ps : List (Int × Str)) : toDs h (ps.map rowD) = some (ps.map Bs.rowP) := by
  induction ps with
  | nil => rfl
  | cons p ps ih =>
    simp only [toDs] at ih
    simp only [toDs, List.map_cons, toPs, ih]
    rfl
theorem sorted_rows (ps : List (Int × Str)) : biS .sorted [.lst (ps.map rowD)] h = .ok (.lst ((ps.mergeSort ple).map rowD)) h := by
  have h1 : alikes (ps.map Bs.rowP) = true := by simp [alikes, Bs.rowP, PySem.W.alike, PySem.W.alikeAll]
  have h2 : sortable (ps.map Bs.rowP) = true := by simp [sortable, Bs.rowP]
  have h3 : ((ps.map Bs.rowP).all fun p => decide (p.depth ≤ 150)) = true := by simp [Bs.rowP, PyData.depth, PyData.depthAll]
  have ez : (ps.map rowD).zip (ps.map Bs.rowP) = ps.map fun p => (rowD p, Bs.rowP p) := by
    clear h1 h2 h3
    induction ps with
    | nil => rfl
    | cons p ps ih => simp only [List.map_cons, List.zip_cons_cons, ih]
  have es : sortD (ps.map fun p => (rowD p, Bs.rowP p)) = (ps.mergeSort ple).map fun p => (rowD p, Bs.rowP p) :=
    (List.map_mergeSort (f := fun p => (rowD p, Bs.rowP p)) (r := ple) (s := PySem.W.dataLe false fun x : D × PyData => x.2) fun a _ b _ => (ple_le a b).symm).symm
  simp only [biS, bSrt, asL, sortedL, toDs_rows, h1, h2, h3, Bool.and_self, if_true, ez, es, List.map_map]
  rfl
theorem lc_mapT {α : Type} {t : Fg} {e : Fn} {xs : List α} {g f : α → D} {r : α → Rho} (ht : ∀ x ∈ xs, t (g x) ρ = some (r x)) (he : ∀ x ∈ xs, e (r x) h = .ok (f x) h) : lcL t yYes e ρ (xs.map g) h = .ok (xs.map f) h := by
  induction xs with
  | nil => rfl
  | cons a l ih =>
    simp only [List.map_cons, lcL, ht a (by simp), yYes_at, bind_ok, if_true, he a (by simp)]
    rw [ih (fun x hx => ht x (by simp [hx])) (fun x hx => he x (by simp [hx]))]
    rfl
theorem rowD_row (k : Kd) : D.tup [.int k.size, .str k.text] = rowD k.row := rfl
theorem sort_rows {es : List Kd} : (es.map row).mergeSort ple = (es.mergeSort kle).map row := (List.map_mergeSort (f := row) (r := kle) (s := ple) fun a _ b _ => rfl).symm
end
end Bx
namespace Bx
open PySem PySem.Spec PyProof.Rows L2 Kd
section
variable {T : Tab} {h : Hh} {ρ : Rho} {i j : Nat} {k : Kd}
theorem xlc_mapT {α : Type} {fin : List D → Hh → Res D} {it : Fl} {own : List Nat} {t : Fg} {e : Fn} {xs : List α} {g f : α → D} {r : α → Rho} (hit : it ρ h = .ok (xs.map g) h) (hz : xs.length ≤ 1000) (ht : ∀ x ∈ xs, t (g x) (wipeR ρ own) = some (r x)) (he : ∀ x ∈ xs, e (r x) h = .ok (f x) h) :
    xLcG fin it own t yYes e ρ h = fin (xs.map f) h := by
  rw [lc_at, hit, bind_ok, if_pos (sz_of (by rw [List.length_map]; exact hz)), lc_mapT ht he, noX_ok, bind_ok]
theorem keys_ents (es : List Kd) : ((ents es).map fun p => ofK p.1) = es.map fun k => D.str k.text := by
  unfold ents
  rw [List.map_map]
  rfl
theorem ents_ord {xs es : List Kd} (g : ∀ a ∈ xs, a.good) (nd : es.Nodup) (m : ∀ a, a ∈ es ↔ a ∈ xs) : es.mergeSort kle = ord xs :=
  sort_same (fun k hk => g k ((m k).mp hk)) nd (dups_nodup _ xs (Nat.le_refl _)) fun k => by rw [m k, List.mem_eraseDups]
theorem nodup_len {es xs : List Kd} (nd : es.Nodup) (m : ∀ a, a ∈ es ↔ a ∈ xs) : es.length ≤ xs.length := by
  have p : es.Perm xs.eraseDups := (List.perm_ext_iff_of_nodup nd (dups_nodup _ xs (Nat.le_refl _))).mpr fun a => by rw [m a, List.mem_eraseDups]
  rw [p.length_eq]
  exact dups_len _ xs (Nat.le_refl _)
theorem ordered_ok (K : Kf T) (n : Nat) (xs : List Kd) (h : Hh) (g : ∀ a ∈ xs, a.good) (hl : xs.length ≤ 1000) (hs : ∀ a ∈ xs, a.size ≤ 60 ∧ a.depth + 2 ≤ n) : callN T (n + 1) "ordered" [.lst (xs.map enc)] h = .ok (.ref h.length) (h ++ [.lst ((ord xs).map enc)]) := by
  rw [call_at K.ordered rfl]
  obtain ⟨es, e1, nd, m0⟩ := fold_ents xs [] (by simp) g (by simp)
  have m : ∀ a, a ∈ es ↔ a ∈ xs := fun a => by rw [m0 a]; simp
  have ge : ∀ a ∈ es, a.good := fun a ha => g a ((m a).mp ha)
  have el : es.length ≤ 1000 := Nat.le_trans (nodup_len nd m) hl
  have dc : xDc (iV (xV 0)) [2] (gN 2) yYes (xCall 1 (callN T n "text_of") (xCons (xV 2) xNil)) (xV 2) [some (.lst (xs.map enc)), none, none, none, none] h = .ok (.dct (ents es)) h := by
    have d1 := dc_map (ρ := [some (.lst (xs.map enc)), none, none, none, none]) (h := h) (i := 2) (ek := xCall 1 (callN T n "text_of") (xCons (xV 2) xNil)) (ev := xV 2) (xs := xs)
      (fun a ha => by simp [text_ok K n a (g a ha) (hs a ha).1 (hs a ha).2]) (fun a ha => by simp) []
    rw [show ([] : List (Key × D)) = ents [] from rfl, e1] at d1
    have zl : sz (xs.map enc).length = true := sz_of (by rw [List.length_map]; exact hl)
    simp only [xDc, iV_at, xV_at, List.getElem?_cons_zero, bind_ok, items_lst, zl, if_true, wipe1, List.set_cons_succ, List.set_cons_zero]
    rw [show dcL (gN 2) yYes (xCall 1 (callN T n "text_of") (xCons (xV 2) xNil)) (xV 2) [some (.lst (xs.map enc)), none, none, none, none] (xs.map enc) [] h = .ok (ents es) h from d1]
    simp only [noX_ok, bind_ok]
  have rows := xlc_mapT (fin := lcF) (ρ := [some (.lst (xs.map enc)), some (.dct (ents es)), none, none, none]) (h := h) (own := [4]) (t := gN 4) (it := iK (xV 1))
    (e := xTup (xCons (xCall 1 (callN T n "size") (xCons (xIdx (xV 1) (xV 4)) xNil)) (xCons (xV 4) xNil))) (xs := es) (g := fun k => D.str k.text) (f := fun k => rowD k.row) (r := fun k => [some (.lst (xs.map enc)), some (.dct (ents es)), none, none, some (.str k.text)])
    (by simp only [iK, xV_at, List.getElem?_cons_succ, List.getElem?_cons_zero, bind_ok, keysD, keys_ents]) el (fun a ha => by simp)
    (fun a ha => by
      have z : sz 2 = true := by decide
      simp [idx_dct (dfind_ents ge ha), size_ok K n a (hs a ((m a).mp ha)).2, z, rowD, row])
  have srt := sorted_rows (h := h) (es.map row)
  rw [List.map_map, sort_rows, List.map_map] at srt
  have fin := xlc_mapT (fin := lcN) (ρ := [some (.lst (xs.map enc)), some (.dct (ents es)), none, none, none]) (h := h) (own := [3, 4]) (t := gT2 3 4) (it := iV (xBi .sorted (xCons (xLcG lcF (iK (xV 1)) [4] (gN 4) yYes (xTup (xCons (xCall 1 (callN T n "size") (xCons (xIdx (xV 1) (xV 4)) xNil)) (xCons (xV 4) xNil)))) xNil)))
    (e := xIdx (xV 1) (xV 4)) (xs := es.mergeSort kle) (g := rowD ∘ row) (f := enc) (r := fun k => [some (.lst (xs.map enc)), some (.dct (ents es)), none, some (.int k.size), some (.str k.text)])
    (by
      rw [iV_at, xBi_at, xCons_at, rows]
      simp only [lcF_at, bind_ok, xNil_at]
      rw [show (es.map fun k => rowD k.row) = es.map (rowD ∘ row) from rfl, srt, bind_ok, items_lst]) (by rw [List.length_mergeSort]; exact el) (fun a ha => rfl)
    (fun a ha => by simp [idx_dct (dfind_ents ge ((List.mergeSort_perm es kle).mem_iff.mp ha))])
  rw [ents_ord g nd m] at fin
  have e2 : endC h (.ok (.ref h.length) (h ++ [.lst ((ord xs).map enc)])) = .ok (.ref h.length) (h ++ [O.lst ((ord xs).map enc)]) := endC_new (by simp) (Nat.le_refl _) (show Bels _ _ from Kd.bels _ _)
  show endC h (endB (zSeq _ _ [some (.lst (xs.map enc)), none, none, none, none] h)) = _
  rw [seq_nx (ρ1 := [some (.lst (xs.map enc)), some (.dct (ents es)), none, none, none]) (h1 := h) (by rw [zSet_at, dc]; rfl), zRet_at, fin]
  simp only [lcN_at, of_ok, endB_rt, e2]
theorem prKs_ents (xs : List Kd) : prKs (xs.map fun k => D.tup [.str k.text, k.enc]) = some (xs.map fun k => (.inr k.text, k.enc)) := by
  induction xs with
  | nil => rfl
  | cons a l ih => simp only [List.map_cons, prKs, prK, toK, Option.map_some, ih]
theorem dups_rows {xs : List Kd} (g : ∀ a ∈ xs, a.good) : ((xs.eraseDups).map row).Perm (xs.map row).eraseDups := by
  refine (List.perm_ext_iff_of_nodup ?_ (erase_nodup _ _ (Nat.le_refl _))).mpr fun p => ?_
  · refine (List.pairwise_map).mpr ((dups_nodup _ xs (Nat.le_refl _)).imp_of_mem fun {a b} ha hb ne e => ne (row_inj (g a (List.mem_eraseDups.mp ha)) (g b (List.mem_eraseDups.mp hb)) e))
  · simp only [List.mem_map, List.mem_eraseDups]
theorem srt_ord {xs : List Kd} (g : ∀ a ∈ xs, a.good) : srtS (xs.map row) = (ord xs).map row := by
  rw [srtS, ← srt_perm (dups_rows g), sort_rows]
  rfl
theorem lordered_ok (L : Lf T) (n : Nat) (xs : List Kd) (h : Hh) (g : ∀ a ∈ xs, a.good) (hl : xs.length < 64) (hs : ∀ a ∈ xs, a.size ≤ 60 ∧ a.depth + 1 ≤ n) : callN T (n + 1) "_law_ordered" [.lst (xs.map enc)] h = .ok (.lst ((ord xs).map enc)) h := by
  rw [call_at L.ordered rfl]
  obtain ⟨es, e1, nd, m0⟩ := fold_ents xs [] (by simp) g (by simp)
  have m : ∀ a, a ∈ es ↔ a ∈ xs := fun a => by rw [m0 a]; simp
  have ge : ∀ a ∈ es, a.good := fun a ha => g a ((m a).mp ha)
  have z : sz 2 = true := by decide
  have r1 := xlc_map (ρ := [some (.lst (xs.map enc)), none, none, none, none, none]) (h := h) (i := 3) (it := iV (xV 0)) (xs := xs) (g := enc) (f := fun k => rowD k.row)
    (e := xTup (xCons (xCall 1 (callN T n "_law_size") (xCons (xV 3) xNil)) (xCons (xCall 1 (callN T n "_law_text") (xCons (xV 3) xNil)) xNil))) (by simp) (by omega)
    (fun a ha => by simp [lsize_ok L n a (hs a ha).2, ltext_ok L n a (g a ha) (hs a ha).1 (hs a ha).2, z, rowD, row])
  have s1 : xSrtSet (xLcG lcF (iV (xV 0)) [3] (gN 3) yYes (xTup (xCons (xCall 1 (callN T n "_law_size") (xCons (xV 3) xNil)) (xCons (xCall 1 (callN T n "_law_text") (xCons (xV 3) xNil)) xNil)))) [some (.lst (xs.map enc)), none, none, none, none, none] h = .ok (.lst ((ord xs).map (rowD ∘ row))) h := by
    have q : prSs (xs.map fun k => rowD k.row) = some (xs.map row) := by
      rw [show (xs.map fun k => rowD k.row) = (xs.map row).map rowD by rw [List.map_map]; rfl, prSs_map]
    have zl : (xs.map row).length < 64 := by rw [List.length_map]; exact hl
    simp only [xSrtSet, r1, bind_ok, asL, q, zl, decide_true, if_true, srt_ord g, List.map_map]
  have r2 := xlc_map (ρ := [some (.lst (xs.map enc)), some (.lst ((ord xs).map (rowD ∘ row))), none, none, none, none]) (h := h) (i := 3) (it := iV (xV 0)) (xs := xs) (g := enc) (f := fun k => D.tup [.str k.text, k.enc])
    (e := xTup (xCons (xCall 1 (callN T n "_law_text") (xCons (xV 3) xNil)) (xCons (xV 3) xNil))) (by simp) (by omega)
    (fun a ha => by simp [ltext_ok L n a (g a ha) (hs a ha).1 (hs a ha).2, z])
  have s2 : xDictP (xLcG lcF (iV (xV 0)) [3] (gN 3) yYes (xTup (xCons (xCall 1 (callN T n "_law_text") (xCons (xV 3) xNil)) (xCons (xV 3) xNil)))) [some (.lst (xs.map enc)), some (.lst ((ord xs).map (rowD ∘ row))), none, none, none, none] h = .ok (.dct (ents es)) h := by
    simp only [xDictP, r2, bind_ok, asL, prKs_ents]
    rw [dmerge, List.foldl_map]
    rw [← e1]
    rfl
  have fin := xlc_mapT (fin := lcF) (ρ := [some (.lst (xs.map enc)), some (.lst ((ord xs).map (rowD ∘ row))), some (.dct (ents es)), none, none, none]) (h := h) (own := [4, 5]) (t := gT2 4 5) (it := iV (xV 1))
    (e := xIdx (xV 2) (xV 5)) (xs := ord xs) (g := rowD ∘ row) (f := enc) (r := fun k => [some (.lst (xs.map enc)), some (.lst ((ord xs).map (rowD ∘ row))), some (.dct (ents es)), none, some (.int k.size), some (.str k.text)])
    (by simp) (by have := ord_len xs; omega) (fun a ha => rfl)
    (fun a ha => by simp [idx_dct (dfind_ents ge ((m a).mpr (ord_mem.mp ha)))])
  show endC h (endB (zSeq _ _ [some (.lst (xs.map enc)), none, none, none, none, none] h)) = _
  rw [seq_nx (ρ1 := [some (.lst (xs.map enc)), some (.lst ((ord xs).map (rowD ∘ row))), none, none, none, none]) (h1 := h) (by rw [zSet_at, s1]; rfl),
    seq_nx (ρ1 := [some (.lst (xs.map enc)), some (.lst ((ord xs).map (rowD ∘ row))), some (.dct (ents es)), none, none, none]) (h1 := h) (by rw [zSet_at, s2]; rfl), zRet_at, fin]
  simp only [lcF_at, of_ok, endB_rt, endC_self]
end
end Bx
namespace Bx
open PySem PySem.Spec PyProof.Rows L2 Kd
section
variable {T : Tab} {h : Hh} {ρ : Rho} {i j : Nat} {k : Kd}
theorem set_last {o o' : O} : (h ++ [o]).set h.length o' = h ++ [o'] := by simp
theorem ext_last {acc ys : List D} (hl : acc.length + ys.length ≤ 1000) : mExt (.ref h.length) [.lst ys] (h ++ [.lst acc]) = .ok .non (h ++ [.lst (acc ++ ys)]) := by
  have e : (h ++ [O.lst acc])[h.length]? = some (.lst acc) := by simp
  simp only [mExt, e, asL, sz_of hl, if_true, set_last]
theorem ext_loop {e : Fn} {d0 : D} {f : Kd → List D} : ∀ (xs : List Kd) (x2 : Option D) (acc : List D), (∀ a ∈ xs, ∀ acc, e [some d0, some (.ref h.length), some a.enc] (h ++ [.lst acc]) = .ok (.lst (f a)) (h ++ [.lst acc])) → acc.length + (xs.flatMap f).length ≤ 1000 →
    ∃ y, loopS (gN 2) (zExpr (xM mExt (xV 1) (xCons e xNil))) (xs.map enc) [some d0, some (.ref h.length), x2] (h ++ [.lst acc]) = .nx [some d0, some (.ref h.length), y] (h ++ [.lst (acc ++ xs.flatMap f)])
  | [], x2, acc, _, _ => ⟨x2, by simp [loopS]⟩
  | a :: xs, x2, acc, hc, hl => by
    simp only [List.flatMap_cons, List.length_append] at hl
    obtain ⟨y, ey⟩ := ext_loop xs (some a.enc) (acc ++ f a) (fun b hb => hc b (by simp [hb])) (by rw [List.length_append]; omega)
    refine ⟨y, ?_⟩
    have e1 : asL (h ++ [O.lst acc]) (.ref h.length) = some acc := by simp [asL]
    have e2 : zExpr (xM mExt (xV 1) (xCons e xNil)) [some d0, some (.ref h.length), some a.enc] (h ++ [.lst acc]) = .nx [some d0, some (.ref h.length), some a.enc] (h ++ [.lst (acc ++ f a)]) := by
      simp only [zExpr_at, xM, xV_at, List.getElem?_cons_succ, List.getElem?_cons_zero, bind_ok, e1, xCons_at, hc a (by simp) acc, xNil_at]
      rw [ext_last (by omega)]
      simp
    simp only [List.map_cons, loopS, gN_at, List.set_cons_succ, List.set_cons_zero, e2, ey, List.flatMap_cons, List.append_assoc]
theorem ref_bels (l : List Kd) : OB h.length (O.lst (l.map enc)) := show Bels _ _ from Kd.bels _ _
theorem lwithin_ok (hW : T "_law_within" = some ⟨1, 3, bLWithin⟩) : ∀ (n : Nat) (k : Kd) (h : Hh), k.size ≤ 1000 → k.depth + 1 ≤ n → callN T n "_law_within" [k.enc] h = .ok (.ref h.length) (h ++ [.lst (k.within.map enc)])
  | 0, k, h, _, hn => by omega
  | n + 1, k, h, hs, hn => by
    rw [call_at hW rfl]
    have z : sz 1 = true := by decide
    have fin : endC h (.ok (.ref h.length) (h ++ [.lst (k.within.map enc)])) = .ok (.ref h.length) (h ++ [O.lst (k.within.map enc)]) := endC_new (by simp) (Nat.le_refl _) (ref_bels _)
    show endC h (endB (bLWithin (callN T n) [some k.enc, none, none] h)) = _
    unfold bLWithin
    rw [seq_nx (ρ1 := [some k.enc, some (.ref h.length), none]) (h1 := h ++ [.lst [k.enc]]) (by simp [z])]
    rcases is_nm k with ⟨x, rfl⟩ | hk
    · rw [seq_nx (ρ1 := [some (nm x).enc, some (.ref h.length), none]) (h1 := h ++ [.lst [(nm x).enc]]) (by simp [enc])]
      simp only [Kd.within, List.map_cons, List.map_nil] at fin ⊢
      simp [fin]
    · have flat : k.enc :: k.parts.flatMap (fun p => p.within.map enc) = k.within.map enc := by
        cases k with
        | nm x => exact absurd rfl (hk x)
        | _ => simp [Kd.parts, Kd.within]
      have fl : 1 + (k.parts.flatMap fun p => p.within.map enc).length ≤ 1000 := by
        have := congrArg List.length flat
        rw [List.length_cons, List.length_map, within_len] at this
        omega
      obtain ⟨y, ey⟩ := ext_loop (h := h) (e := xFz (xCall 1 (callN T n "_law_within") (xCons (xV 2) xNil))) (d0 := k.enc) (f := fun p => p.within.map enc) k.parts none [k.enc] (fun a ha acc => by
        have e1 := lwithin_ok hW n a (h ++ [.lst acc]) (by have := part_size ha; omega) (by have := part_depth ha; omega)
        exact fz_new (ds := a.within.map enc) (by simp [e1]) (Kd.bels _ _)) fl
      rw [List.singleton_append, flat] at ey
      rw [seq_nx (ρ1 := [some k.enc, some (.ref h.length), y]) (h1 := h ++ [.lst (k.within.map enc)]) (by
        simp only [zIf_at, yV_at, xBi_at, xCons_at, xV_at, List.getElem?_cons_zero, bind_ok, xC_at, xNil_at, (ntype hk).2, isB_at, of_ok, if_true, zFor_at, slc_parts (k := k) (ρ := [some k.enc, some (.ref h.length), none]) (i := 0) (h := h ++ [.lst [k.enc]]) rfl hk, of_ok, ey])]
      simp [fin]
theorem gone_call {f : Fn} {ds : List D} (hf : f ρ (h ++ [.lst ds]) = .ok (.ref h.length) (h ++ [.lst ds])) : xGo f ρ (h ++ [.lst ds]) = .ok (.lst ds) (h ++ [.gone]) := by
  have e : (h ++ [O.lst ds])[h.length]? = some (.lst ds) := by simp
  simp only [xGo, hf, bind_ok, e, set_last]
/-- what all_parts puts together -/
def gath (k : Kd) : List Kd := k :: k.parts.flatMap fun p => ord p.within
theorem gath_mem {k a : Kd} : a ∈ gath k ↔ a ∈ k.within := by
  rw [mem_within_parts, gath, List.mem_cons, List.mem_flatMap]
  simp only [ord_mem]
theorem gath_good {k : Kd} (g : k.good) : ∀ a ∈ gath k, a.good := fun a ha => within_good g a (gath_mem.mp ha)
theorem gath_len (k : Kd) : (gath k).length ≤ k.size := by
  have l : ∀ a : Kd, (ord a.within).length ≤ a.size := fun a => by have := ord_len a.within; rw [within_len] at this; exact this
  cases k with
  | nm x => simp [gath, Kd.parts, Kd.size]
  | ls a => have := l a; simp only [gath, Kd.parts, Kd.size, List.flatMap_cons, List.flatMap_nil, List.length_cons, List.length_append, List.length_nil]; omega
  | pr a b => have := l a; have := l b; simp only [gath, Kd.parts, Kd.size, List.flatMap_cons, List.flatMap_nil, List.length_cons, List.length_append, List.length_nil]; omega
  | fn a b => have := l a; have := l b; simp only [gath, Kd.parts, Kd.size, List.flatMap_cons, List.flatMap_nil, List.length_cons, List.length_append, List.length_nil]; omega
theorem within_depth {k : Kd} : ∀ a ∈ k.within, a.depth ≤ k.depth := by
  induction k with
  | nm x => intro a h; simp only [within, List.mem_singleton] at h; rw [h]; exact Nat.le_refl _
  | ls a ih =>
    intro b h
    simp only [within, List.mem_cons] at h
    rcases h with rfl | h
    · exact Nat.le_refl _
    · have := ih b h; simp only [depth]; omega
  | pr a b iha ihb =>
    intro c h
    simp only [within, List.mem_cons, List.mem_append] at h
    rcases h with rfl | h | h
    · exact Nat.le_refl _
    · have := iha c h; simp only [depth]; omega
    · have := ihb c h; simp only [depth]; omega
  | fn a b iha ihb =>
    intro c h
    simp only [within, List.mem_cons, List.mem_append] at h
    rcases h with rfl | h | h
    · exact Nat.le_refl _
    · have := iha c h; simp only [depth]; omega
    · have := ihb c h; simp only [depth]; omega
theorem all_parts_ok (K : Kf T) : ∀ (n : Nat) (k : Kd) (h : Hh), k.good → k.size ≤ 60 → k.depth + 4 ≤ n → callN T n "all_parts" [k.enc] h = .ok (.ref h.length) (h ++ [.lst ((ord k.within).map enc)])
  | 0, k, h, _, _, hn => by omega
  | 1, k, h, _, _, hn => by omega
  | n + 2, k, h, g, hs, hn => by
    rw [call_at K.all rfl]
    have z : sz 1 = true := by decide
    have gm : (gath k).map enc = k.enc :: k.parts.flatMap (fun p => (ord p.within).map enc) := by rw [gath, List.map_cons, List.map_flatMap]
    have gl := gath_len k
    have fl : 1 + (k.parts.flatMap fun p => (ord p.within).map enc).length ≤ 1000 := by
      have := congrArg List.length gm
      rw [List.length_cons, List.length_map] at this
      omega
    obtain ⟨y, ey⟩ := ext_loop (h := h) (e := xFz (xCall 1 (callN T (n + 1) "all_parts") (xCons (xV 2) xNil))) (d0 := k.enc) (f := fun p => (ord p.within).map enc) k.parts none [k.enc] (fun a ha acc => by
      have e1 := all_parts_ok K (n + 1) a (h ++ [.lst acc]) (part_good g ha) (by have := part_size ha; omega) (by have := part_depth ha; omega)
      exact fz_new (ds := (ord a.within).map enc) (by simp [e1]) (Kd.bels _ _)) fl
    rw [List.singleton_append, ← gm] at ey
    have oo := ordered_ok K n (gath k) (h ++ [.gone]) (gath_good g) (by omega) (fun a ha => by
      have h1 := within_size a (gath_mem.mp ha)
      have h2 := within_depth a (gath_mem.mp ha)
      omega)
    rw [ord_same (gath_good g) fun a => gath_mem] at oo
    have fin : endC h (.ok (.ref (h ++ [O.gone]).length) (h ++ [.gone] ++ [.lst ((ord k.within).map enc)])) = .ok (.ref h.length) (h ++ [O.lst ((ord k.within).map enc)]) := by
      rw [List.append_assoc]
      have e1 : (h ++ ([O.gone] ++ [.lst ((ord k.within).map enc)]))[(h ++ [O.gone]).length]? = some (.lst ((ord k.within).map enc)) := by rw [← List.append_assoc, List.getElem?_concat_length]
      exact endC_new (h := h) (k := (h ++ [O.gone]).length) (o := .lst ((ord k.within).map enc)) e1 (by rw [List.length_append]; omega) (ref_bels _)
    have gc := gone_call (f := xV 1) (ρ := [some k.enc, some (.ref h.length), y]) (h := h) (ds := (gath k).map enc) (by simp)
    show endC h (endB (bAllParts (callN T (n + 1)) [some k.enc, none, none] h)) = _
    unfold bAllParts
    rw [seq_nx (ρ1 := [some k.enc, some (.ref h.length), none]) (h1 := h ++ [.lst [k.enc]]) (by simp [z]),
      seq_nx (ρ1 := [some k.enc, some (.ref h.length), y]) (h1 := h ++ [.lst ((gath k).map enc)]) (by
        simp only [zFor_at, fparts K k (ρ := [some k.enc, some (.ref h.length), none]) (i := 0) (j := n) (h := h ++ [.lst [k.enc]]) rfl, of_ok, ey])]
    simp only [zRet_at, xCall_at, xCons_at, gc, bind_ok, xNil_at, List.length_cons, List.length_nil, Nat.zero_add, if_true, oo, of_ok, endB_rt, fin]
structure Nms (xs : List Str) : Prop where
  pos : 0 < xs.length
  few : xs.length ≤ 1000
  ss : ∀ x ∈ xs, SS 8 x ∧ 0 < x.length
theorem one_nm (tk : T "_law_take" = some ⟨2, 7, bTake⟩) (t1 : T "_law_one" = some ⟨2, 2, bOne⟩) {xs : List Str} (N : Nms xs) {j : Nat} {o : O} {r : Hh} (B : Bg o) : ∃ x o', callN T (j + 2) "_law_one" [.ref 0, .lst (xs.map .str)] (o :: r) = .ok (.str x) (o' :: r) ∧ x ∈ xs ∧ (SS 8 x ∧ 0 < x.length) ∧ Bg o' := by
  obtain ⟨d, o', e, hm, B'⟩ := one_lst (j := j) (r := r) tk t1 B (xs := xs.map .str) (by rw [List.length_map]; exact N.pos) (by rw [List.length_map]; exact N.few)
  obtain ⟨x, hx, rfl⟩ := List.mem_map.mp hm
  exact ⟨x, o', e, hx, N.ss x hx, B'⟩
theorem any_kind_call (tk : T "_law_take" = some ⟨2, 7, bTake⟩) (t1 : T "_law_one" = some ⟨2, 2, bOne⟩) (ta : T "_law_any_kind" = some ⟨3, 6, bAnyKind⟩) {xs : List Str} (N : Nms xs) {r : Hh} :
    ∀ (u j : Nat) (o : O), 1 ≤ u → u ≤ 1000 → Bg o → ∃ (k : Kd) (o' : O), callN T (j + u + 2) "_law_any_kind" [.ref 0, .lst (xs.map .str), .int u] (o :: r) = .ok k.enc (o' :: r) ∧ k.good ∧ k.size ≤ u ∧ Bg o' := by
  intro u
  induction u using Nat.strongRecOn with
  | ind u ih =>
    intro j o hu hu2 B
    obtain ⟨v, o1, e1, B1, v0, v1⟩ := take_call tk (k := j + u) (r := r) B (m := 5) (by decide) (by decide)
    obtain ⟨x, ox, ex, _, sx, Bx⟩ := one_nm tk t1 N (j := j + u - 1) (r := r) B1
    rw [show j + u - 1 + 2 = j + u + 1 by omega] at ex
    rw [call_at ta rfl]
    simp only [bAnyKind]
    rw [seq_nx (ρ1 := [some (.ref 0), some (.lst (xs.map .str)), some (.int u), some (.int v), none, none]) (h1 := o1 :: r) (by simp [startR, e1])]
    have h2 : sz 2 = true := by decide
    have h3 : sz 3 = true := by decide
    by_cases c1 : u < 2 ∨ v < 2
    · have c1' : ((u : Int) < 2 ∨ v < 2) := by omega
      refine ⟨nm x, ox, ?_, sx, hu, Bx⟩
      rw [seq_rt (d := .str x) (h1 := ox :: r)]
      · simp [enc]
      · by_cases c2 : (u : Int) < 2
        · simp [c2, ex]
        · have : v < 2 := by omega
          simp [c2, this, ex]
    · have c1a : ¬ (u : Int) < 2 := by omega
      have c1b : ¬ v < 2 := by omega
      rw [seq_nx (ρ1 := [some (.ref 0), some (.lst (xs.map .str)), some (.int u), some (.int v), none, none]) (h1 := o1 :: r) (by simp [c1a, c1b])]
      by_cases c3 : v = 2 ∨ u < 3
      · obtain ⟨k, o2, e2, g2, s2, B2⟩ := ih (u - 1) (by omega) j o1 (by omega) (by omega) B1
        have e2' : callN T (j + u + 1) "_law_any_kind" [.ref 0, .lst (xs.map .str), .int ((u : Int) - 1)] (o1 :: r) = .ok k.enc (o2 :: r) := by
          rw [show j + (u - 1) + 2 = j + u + 1 by omega, show ((u - 1 : Nat) : Int) = (u : Int) - 1 by omega] at e2
          exact e2
        refine ⟨ls k, o2, ?_, g2, by simp only [Kd.size]; omega, B2⟩
        · rw [seq_rt (d := .tup [.str "list", k.enc]) (h1 := o2 :: r)]
          · simp [enc]
          · by_cases c4 : v = 2
            · simp [c4, e2', h2]
            · have : (u : Int) < 3 := by omega
              simp [c4, this, e2', h2]
      · have c3a : ¬ v = 2 := by omega
        have c3b : ¬ (u : Int) < 3 := by omega
        rw [seq_nx (ρ1 := [some (.ref 0), some (.lst (xs.map .str)), some (.int u), some (.int v), none, none]) (h1 := o1 :: r) (by simp [c3a, c3b])]
        obtain ⟨l, o2, e2, B2, l0, l1⟩ := take_call tk (k := j + u) (r := r) B1 (m := (u : Int) - 2) (by omega) (by omega)
        obtain ⟨ln, rfl⟩ := Int.eq_ofNat_of_zero_le l0
        rw [seq_nx (ρ1 := [some (.ref 0), some (.lst (xs.map .str)), some (.int u), some (.int v), some (.int (1 + (ln : Int))), none]) (h1 := o2 :: r) (by simp [e2])]
        obtain ⟨d3, o3, e3, g3, s3, B3⟩ := ih (1 + ln) (by omega) (j + u - 2 - ln) o2 (by omega) (by omega) B2
        obtain ⟨d4, o4, e4, g4, s4, B4⟩ := ih (u - 1 - (1 + ln)) (by omega) (j + 1 + ln) o3 (by omega) (by omega) B3
        rw [show j + u - 2 - ln + (1 + ln) + 2 = j + u + 1 by omega, show ((1 + ln : Nat) : Int) = 1 + (ln : Int) by omega] at e3
        rw [show j + 1 + ln + (u - 1 - (1 + ln)) + 2 = j + u + 1 by omega, show ((u - 1 - (1 + ln) : Nat) : Int) = (u : Int) - 1 - (1 + (ln : Int)) by omega] at e4
        by_cases c : v = 3
        · subst c
          have hw : idxD (.lst [.str "pair", .str "fun"]) (.int (3 - 3)) (o2 :: r) = .ok (.str "pair") (o2 :: r) := rfl
          rw [seq_nx (ρ1 := [some (.ref 0), some (.lst (xs.map .str)), some (.int u), some (.int 3), some (.int (1 + (ln : Int))), some (.str "pair")]) (h1 := o2 :: r) (by simp [h2])]
          refine ⟨pr d3 d4, o4, ?_, ⟨g3, g4⟩, by simp only [Kd.size]; omega, B4⟩
          simp [e3, e4, h3, enc]
        · obtain rfl : v = 4 := by omega
          have hw : idxD (.lst [.str "pair", .str "fun"]) (.int 1) (o2 :: r) = .ok (.str "fun") (o2 :: r) := rfl
          rw [seq_nx (ρ1 := [some (.ref 0), some (.lst (xs.map .str)), some (.int u), some (.int 4), some (.int (1 + (ln : Int))), some (.str "fun")]) (h1 := o2 :: r) (by simp [h2, hw])]
          refine ⟨fn d3 d4, o4, ?_, ⟨g3, g4⟩, by simp only [Kd.size]; omega, B4⟩
          simp [e3, e4, h3, enc]
end
end Bx
namespace Bx
open PySem PySem.Spec PyProof.Rows L2
/-- the two statements -/
def supBody (se x f : Str) (p0 p1 p2 p3 p4 p5 p6 p7 p8 p9 : Pos) : List Stmt :=
  [.Expr (.Call (.Attribute (.Call (.Name "super" p0) [] [] p1) "__init__" p2) [.Name x p3] [] p4) p5, .Assign [.Attribute (.Name se p6) f p7] (.Name x p8) p9]
/-- what the written part says of the def and its class -/
structure SupC (P : Program) (g : Gx) (C fI : Addr) (se x f : Str) (fd : FuncData) : Prop where
  T : OexC g.K C
  fn : ∃ name qual params scope dV kV doc pm an cda ct cc oc od osl p0 p1 p2 p3 p4 p5 p6 p7 p8 p9,
    fd = PySem.W.ksFn name qual params (supBody se x f p0 p1 p2 p3 p4 p5 p6 p7 p8 p9) scope dV kV doc pm an (.ref cda) ct cc ∧ g.K.lookup fI = some ⟨oc, od, .func fd, osl⟩ ∧
    PySem.W.codeIn g.K (.ref cda) qual = true ∧ ((params.posonlyargs ++ params.args).head?.map (·.arg)) = some se ∧
    (∃ ccl cdd vs ccs file tf, g.K.lookup cda = some ⟨ccl, cdd, .fields vs, ccs⟩ ∧ vs[2]? = some (.str file tf) ∧ ((P.main.file : Str) == file) = true) ∧
    (∃ cl cld csl, g.K.lookup cc = some ⟨cl, cld, .cell (some (.ref C)), csl⟩) ∧
    scope.names.lookup ("super" : Str) = some .globalImplicit ∧ scope.names.lookup ("__class__" : Str) = some .free ∧ scope.names.lookup se = some .local ∧ scope.names.lookup x = some .local ∧
    (∀ y ∈ scope.names, y.2 ≠ .cell) ∧ scope.isCoroutine = false ∧ scope.isGenerator = false ∧ scope.kind = .function ∧
    (∀ L : Addr, interactive (callEnv fd L fI) = false ∧ swapsWith (.Call (.Attribute (.Call (.Name "super" p0) [] [] p1) "__init__" p2) [.Name x p3] [] p4) none p5.line (callEnv fd L fI) = pure false ∧
      swapsWith (.Name x p8) (some (.Attribute (.Name se p6) f p7)) p9.line (callEnv fd L fI) = pure false ∧ starEach [.Name x p3] (callEnv fd L fI) = [(false, eval (.Name x p3) (callEnv fd L fI))] ∧
      ∃ pl : Sem Bool, eval (.Call (.Attribute (.Call (.Name "super" p0) [] [] p1) "__init__" p2) [.Name x p3] [] p4) (callEnv fd L fI) = (do
        let ov ← attributeBase (.Call (.Name "super" p0) [] [] p1) "__init__" (callEnv fd L fI) (eval (.Call (.Name "super" p0) [] [] p1) (callEnv fd L fI))
        standAt p2.atName
        let (q, first) ← holding [ov] (getMethod ov "__init__" pl)
        callWith p4 q first (backTo p4 (starEach [.Name x p3] (callEnv fd L fI))) []))
  ne : se ≠ x
  xd : (x == ("__debug__" : Str)) = false
  sd : (se == ("__debug__" : Str)) = false
  sup : g.mg "super" = none
  top : (P.main.scope.names.lookup ("super" : Str)).isSome = false
  mro : PySem.W.mroIn g.K C (.ref C) = some true
  ini : PySem.W.ks_superIn g.K C C "__init__" = some (some (.builtin "ValueError.__init__"))
  opq : PySem.W.nsIn g.K cStatics "thirdparty.any" = some none
  ve : PySem.W.subIn g.K (.ref C) (.type "ValueError") = some true
  exi : PySem.W.excInitIn g.K C [.type "ValueError", .type "Exception", .type "BaseException", .type "object"] "ValueError.__new__" = true
  fno : PySem.W.findIn g.K (.ref C) f = some none
/-- what the def promises -/
def spSup (C : Addr) (f : Str) : Sp := fun vs H Q _ => ∃ (a : Addr) (y : V), vs = [.ref a, y] ∧ H a = some (exo a C none) ∧ ∀ dx, H dx = none → dx ≠ a → Q .non (upd (upd H dx (exd dx [(f, y)])) a (exo a C (some dx)))
section
variable {P : Program} {w : World} {g : Gx} {base : Heap} {CX : CXT} {C fI : Addr} {se x f : Str} {fd : FuncData}
theorem sup_fn (Z : SupC P g C fI se x f fd) : FnOk P w g.K g.mg base CX 1 fI fd [se, x] (spSup C f) := by
  refine ⟨fun vs H Q E ⟨a, y, e, _⟩ => by rw [e]; rfl, fun A outer s H args us vs Q E hr e0 hb r ⟨a, y, ev, ea, hq⟩ => ?_⟩
  subst ev
  obtain ⟨u, us', rfl⟩ : ∃ u us', us = u :: us' := by cases r with | cons _ _ => exact ⟨_, _, rfl⟩
  obtain ⟨v, rfl, ry⟩ : ∃ v, us' = [v] ∧ RelV y v := by
    cases r with
    | cons _ r => cases r with
      | cons h t => cases t; exact ⟨_, rfl, h⟩
  obtain rfl : u = Value.ref a := by cases r with | cons h _ => exact h
  obtain ⟨name, qual, params, scope, dV, kV, doc, pm, an, cda, ct, cc, oc, od, osl, p0, p1, p2, p3, p4, p5, p6, p7, p8, p9, rfl, lk, hcd, hpar, ⟨ccl, cdd, fvs, ccs, file, tf, hcode, hvs, hfile⟩, ⟨cl, cld, csl, hcell⟩, hks, hkc, hka, hkx, hcel, hco, hgen, hk, hev⟩ := Z.fn
  obtain ⟨hi, hs1, hs2, hst, pl, hcall⟩ := hev s.heap.objs.size
  have KX : g.K.In s.heap := e0.mod.kin.keeps fun b o e => (e0.bs b o e).1
  have lim : s.heap.NoLimit := e0.mod.nolimit.keeps fun b o e => (e0.bs b o e).1
  obtain ⟨t0, ho⟩ := exo_at e0.hok ea
  obtain ⟨ar, har, hse⟩ : ∃ ar, (params.posonlyargs ++ params.args).head? = some ar ∧ ar.arg = se := by
    cases z : (params.posonlyargs ++ params.args).head? with
    | none => rw [z] at hpar; cases hpar
    | some ar => rw [z] at hpar; exact ⟨ar, rfl, Option.some.inj hpar⟩
  have hloc : ∀ y ∈ [se, x].zip [Value.ref a, v], scope.names.lookup y.1 = some .local := fun y hy => by
    simp only [List.zip_cons_cons, List.zip_nil_right, List.mem_cons, List.not_mem_nil, or_false] at hy
    rcases hy with rfl | rfl
    · exact hka
    · exact hkx
  refine ks_codeAny_call_defAt (fd := PySem.W.ksFn name qual params (supBody se x f p0 p1 p2 p3 p4 p5 p6 p7 p8 p9) scope dV kV doc pm an (.ref cda) ct cc) (body := supBody se x f p0 p1 p2 p3 p4 p5 p6 p7 p8 p9) hr.depth (KX _ _ lk) rfl lim (PySem.W.codeRec_of KX hcd) rfl hb hcel hloc (fun h1 hns hk1 => ?_) hco hgen hk
  have bk1 : ∀ b o, base.get? b = some o → h1.get? b = some o := fun b o e => hk1 b o (e0.bs b o e).1
  obtain ⟨mb, hmb1, hmb2⟩ := e0.mod.blt
  have F1 : Fr (PySem.W.hideAll s.heap [a]) s.heap.objs.size h1 _ := ⟨hns, fun b o e => hk1 b o (PySem.W.of_hideAll _ e), Nat.le_of_eq (PySem.W.hideAll_size _ _)⟩
  have N1 : News (PySem.W.hideAll s.heap [a]) s.heap.objs.size h1 [(a, PySem.W.excObj C t0 none .none)] := fun p hp => by
    obtain rfl := List.mem_singleton.mp hp
    exact ⟨hk1 _ _ ho, Nat.ne_of_lt (Heap.lt_size ho), PySem.W.hideAll_none _ (by simp)⟩
  have X0 : g.K.In (PySem.W.hideAll s.heap [a]) := fun b o e => PySem.W.hideAll_get _ (KX b o e) (by
    simp only [List.mem_singleton]
    rintro rfl
    have z := (e0.bs b o (e0.mod.kin b o e)).2
    rw [ea] at z
    cases z)
  have X1 : g.K.In h1 := X0.keeps F1.keep
  obtain ⟨cd, hC⟩ : ∃ cd, PySem.W.clsIn g.K C = some cd := by
    cases z : PySem.W.clsIn g.K C with
    | none =>
      have q := Z.ini
      unfold PySem.W.ks_superIn at q
      rw [z] at q
      cases q
    | some cd => exact ⟨cd, rfl⟩
  obtain ⟨oD, hD1, hD2⟩ : ∃ oD, h1.get? C = some oD ∧ oD.data = .cls cd := by
    unfold PySem.W.clsIn at hC
    split at hC
    · rename_i c d cd' sl ho
      cases hC
      exact ⟨_, X1 _ _ ho, rfl⟩
    · cases hC
  have hself : (([se, x].zip [Value.ref a, v]).reverse.lookup se) = some (.ref a) := by
    have : (se == x) = false := by simpa using Z.ne
    simp [List.lookup, this]
  have hxv : (([se, x].zip [Value.ref a, v]).reverse.lookup x) = some v := by simp [List.lookup]
  refine ks_wpAt_execs_cons (ks_wpAt_Expr_any (ks_wpAt_MethodCall ?_ hcall) hi hs1)
  refine ks_wpAt_super_base (ar := ar) hks hkc rfl rfl (X1 _ _ lk) rfl har rfl (X1 _ _ hcode) rfl hvs hfile Z.top ?_
  refine PySem.W.ks_loadName_global hk hks (Calls.loadGlobal_builtin (e0.mod.glob.keeps bk1) Z.sup (hmb1.keeps bk1) ((hmb2 _ (by decide +kernel)).trans (by first | boot_by_name | rfl | kernel_rfl)) ⟨rfl, ?_⟩)
  refine wpAny_loadName_free hk hkc rfl ⟨_, X1 _ _ hcell, rfl⟩ ?_
  rw [hse]
  refine wpAny_loadName_local hk hka F1.ns hself ?_
  refine ks_wpAny_isType_cls hD1 hD2 ⟨rfl, ?_⟩
  refine ks_wpAny_call_super hD1 hD2 (hk1 _ _ ho) rfl (fun c e => by cases e) (PySem.W.looks_mroIn X1 Z.mro) (fun h2 e2 k2 => ?_)
  obtain ⟨F2, N2, l2⟩ := PySem.W.ks_newsPush (s := { s with heap := h1 }) F1 N1 rfl e2 k2
  refine PySem.W.kxs_method (s := { s with heap := h2, toks := s.toks + 2 }) PySem.W.kxs_ValueError F2 X0 N2 (List.mem_cons_self ..) (PySem.W.InstAt.of_exc0 N2 (List.mem_cons_of_mem _ (List.mem_singleton.mpr rfl))) Z.opq Z.ini Z.ve (by decide +kernel) (fun u h3 F3 N3 l3 => ?_)
  rw [hst]
  refine PySem.W.kxs_callWith (i := "ValueError.__init__") (x := a) rfl (Calls.evalArgs_plain (Calls.spliced_cons (wpAny_Name (wpAny_loadName_local hk hkx F3.ns hxv (Calls.spliced_nil ⟨PySem.W.kxs_at N3 (List.mem_cons_self ..), ?_⟩)) Z.xd)))
  have nau : (u, PySem.W.kxs_mw "ValueError.__init__" a).1 ≠ a := Nat.ne_of_gt (l3 (a, _) (List.mem_cons_of_mem _ (List.mem_singleton.mpr rfl)))
  have nas : (h1.objs.size, PySem.W.ks_superObj C a C).1 ≠ a := Nat.ne_of_gt (l2 (a, _) (List.mem_singleton.mpr rfl))
  refine PySem.W.kxs_call (dv := none) (c2 := .none) F3 X0 N3 F.excBase_ValueError Z.exi (List.mem_cons_self ..) (.tail nau (.tail nas (.head (fun _ hp => (nomatch hp))))) (by simp [sizeLine_eq]) (fun t1 h4 F4 N4 l4 => ?_)
  -- self.f = x
  have hx4 : h4.get? a = some (PySem.W.excObj C t1 none .none) := (N4 (a, PySem.W.excObj C t1 none .none) (List.mem_cons_of_mem _ (List.mem_cons_of_mem _ (List.mem_cons_of_mem _ (List.mem_singleton.mpr rfl))))).1
  have X4 : g.K.In h4 := X0.keeps F4.keep
  obtain ⟨nm, q, NN, bs, bm, sn, sub, ab, col, dd, k0, k1, k2', k3, k5, hCo, hbm⟩ := Z.T.cls
  have hcl : PySem.W.clsIn g.K C = some { name := nm, bases := bs, mro := .ref C :: bm, ns := NN, qualname := q, hasDict := true, slotNames := sn, subclasses := sub, abstract := ab, collection := col, hasDel := false } := by unfold PySem.W.clsIn; rw [hCo] <;> rfl
  refine ks_wpAt_execs_cons (wpAt_of_wpAny (plainObj_wpAny_Assign_Attribute (wpAny_Name (wpAny_loadName_local hk hkx F4.ns hxv (wpAny_Name (wpAny_loadName_local hk hka F4.ns hself ?_) Z.sd)) Z.xd) hs2))
  refine PySem.W.set_plain X4 (ox := PySem.W.excObj C t1 none .none) (od := none) ⟨hx4, rfl, rfl, trivial⟩ Z.T.sa ?_
  refine PySem.HandSPX.exc_osa X4 hx4 hcl (show PySem.HandSPX.refsVE (.ref C :: bm) = true from hbm) rfl Z.fno (fun h5 tk5 dx k5' dn dne hx hn => ?_)
  refine wpAt_of_wpAny (wpAny_execs_nil ?_)
  have hL : s.heap.objs.size < h4.objs.size := by
    obtain ⟨oL, es, ep, e, _⟩ := F4.ns
    exact Heap.lt_size e
  have hnd : H dx = none := e0.hok.fresh (Nat.le_trans (Nat.le_of_lt hL) dn)
  have kk : ∀ b o, b ≠ a → s.heap.get? b = some o → h5.get? b = some o := fun b o hb e => k5' b o hb (F4.keep b o (PySem.W.hideAll_get _ e (by simpa using hb)))
  have nd : ∀ {b : Addr} {o : Obj}, s.heap.get? b = some o → b ≠ dx := fun {b o} q => Nat.ne_of_lt (Nat.lt_of_lt_of_le (Nat.lt_trans (Heap.lt_size q) hL) dn)
  have na : ∀ {b : Addr}, H b = none → b ≠ a := fun {b} n z => by
    rw [z, ea] at n
    cases n
  refine ⟨.non, upd (upd H dx (exd dx [(f, y)])) a (exo a C (some dx)), rfl, e0.bare, {
    keep := fun b o q n _ _ => kk b o (na n) q
    slot := fun b o q n _ _ => ⟨o.slots, kk b o (na n) q⟩
    free := fun b o q n _ => by rw [upd_ne (na n), upd_ne (nd q)]; exact n
    there := fun b o q _ => by
      by_cases hb : b = a
      · exact ⟨_, by rw [hb]; exact hx⟩
      · exact ⟨o, kk b o hb q⟩
    tups := fun b xs q => by rw [upd_ne (at_ne ea q exo_tup), upd_ne (ne_of_none q hnd)]; exact q
    frzs := fun b o v q => by rw [upd_ne (at_ne ea q exo_frz), upd_ne (ne_of_none q hnd)]; exact q
    tbls := fun b ps q => ⟨#[], by rw [upd_ne (at_ne ea q exo_tbl), upd_ne (ne_of_none q hnd), q]; simp⟩ }, fun b o q => ?_, rfl, hq dx hnd dne⟩
  by_cases hb : b = a
  · subst hb
    rw [upd_same] at q
    cases q
    exact exo_ok hx
  · rw [upd_ne hb] at q
    by_cases hd : b = dx
    · subst hd
      rw [upd_same] at q
      cases q
      exact exd_ok hn (relO_put (fs := []) ry fun g => True.intro)
    · rw [upd_ne hd] at q
      exact (e0.hok b o q).stay (fun c v hc z => kk c v (by
          rcases hc with hc | hc
          · rw [hc]
            exact hb
          · exact at_ne ea hc exo_own) z)
        (fun c hc => by rw [upd_ne (at_ne ea hc exo_own), upd_ne (ne_of_none hc hnd)]; exact hc) (fun c xs hc => by rw [upd_ne (at_ne ea hc exo_tup), upd_ne (ne_of_none hc hnd)]; exact hc)
end
end Bx
namespace Bx
open PySem PySem.Spec PyProof.Rows L2
/-- an error with one field, as the written part has it -/
structure ExC (P : Program) (g : Gx) (c : Str) (C fI : Addr) (fd : FuncData) (se x : Str) : Prop where
  sup : SupC P g C fI se x (fldOf c) fd
  mg : g.mg c = some (.ref C)
  ini : PySem.W.findIn g.K (.ref C) "__init__" = some (some (.ref fI))
  fn : PySem.W.typeIn g.K (.ref fI) = some (.type "function")
  bd : Binds g.K fd [se, x] []
def tMkV (C : Addr) (f : Str) (ta : TA) : TE := fun σ H Q => ta σ H fun vs H1 => ∃ y, vs = [y] ∧ ∀ a dx, H1 a = none → H1 dx = none → dx ≠ a → Q (.ref a) (upd (upd H1 dx (exd dx [(f, y)])) a (exo a C (some dx)))
/-- C(e): an error made -/
def xExn (c : Str) (n : Nat) (fs : Fl) : Fn := fun ρ h => (fs ρ h).bind fun ds h1 => if ds.length = n then .ok (.exn c ds) h1 else .bad
/-- raise C(e) -/
def zRaise (c : Str) (n : Nat) (fs : Fl) : Fs := fun ρ h => SRes.of ρ (fs ρ h) fun ds h1 => if ds.length = n then .exc c ds ρ h1 else .bad
section
variable {g : Gx} {W : WX} {X : Cx} {c se x : Str} {C fI : Addr} {fd : FuncData} {e : Expr} {ta : TA} {fs : Fl} {p pos : Pos}
theorem upd_back {H : Hp} {a dx : Addr} {o1 o2 o3 : HO} (h : dx ≠ a) : upd (upd (upd H a o1) dx o2) a o3 = upd (upd H dx o2) a o3 := by
  funext b
  by_cases hb : b = a
  · rw [hb, upd_same, upd_same]
  · rw [upd_ne hb, upd_ne hb]
    by_cases hd : b = dx
    · rw [hd, upd_same, upd_same]
    · rw [upd_ne hd, upd_ne hd, upd_ne hb]
theorem pe_oexV (Z : ExC X.prog g c C fI fd se x) (hK : X.K = g.K) (hM : X.mg = g.mg) (hr : Room 2 X.A) (hg : Gl X c) (ha : PA X [e] ta)
    (hdb : (c == ("__debug__" : Str)) = false := by decide +kernel) (he : starEach [e] X.env = [(false, eval e X.env)] := by rfl) : PE X (.Call (.Name c p) [e] [] pos) (tMkV C (fldOf c) ta) := by
  refine ⟨fun pins s σ H Q I h => ?_⟩
  obtain ⟨nm, q, N, bs, bm, sn, sub, ab, col, dd, k0, k1, k2, k3, k5, hC, hbm⟩ := Z.sup.T.cls
  refine wpAny_Call_Name_kw (ld_glob I hg (by rw [hM]; exact Z.mg) ?_ hdb)
  refine PySem.W.callWith_K (h₀ := X.base) I.ok.mod.kin (by rw [hK]; exact Z.sup.T.kC) (thn (ha.run pos pins s σ H _ I h) fun us s1 ⟨vs, H1, I1, r1, y, ev, q1⟩ => ⟨I1.kIn, ?_⟩) he rfl
  subst ev
  show wpAny _ _ (call (.ref C) us) _ _ _
  obtain ⟨hp, gg, dr, tk, os⟩ := s1
  have hn : H1 (hp.objs.size + 1) = none := I1.hok.fresh (Nat.le_succ _)
  have kk : ∀ b o, hp.get? b = some o → ((hp.push (PySem.W.kdv_tup us)).push (PySem.HandSPX.excO C hp.objs.size)).get? b = some o := fun b o e => Heap.get?_push_of_some _ (Heap.get?_push_of_some _ e)
  have hget : ((hp.push (PySem.W.kdv_tup us)).push (PySem.HandSPX.excO C hp.objs.size)).get? (hp.objs.size + 1) = some (PySem.HandSPX.excO C hp.objs.size) := by heap_get
  have I2 : Inv X pins σ (upd H1 (hp.objs.size + 1) (exo (hp.objs.size + 1) C none)) ⟨(hp.push (PySem.W.kdv_tup us)).push (PySem.HandSPX.excO C hp.objs.size), gg, dr, tk, os⟩ :=
    I1.laid (t' := tk) (a := hp.objs.size + 1) (o := exo (hp.objs.size + 1) C none) (h' := (hp.push (PySem.W.kdv_tup us)).push (PySem.HandSPX.excO C hp.objs.size)) kk (Nat.le_succ _) (exo_ok hget)
  have r2 : Vals [V.ref (hp.objs.size + 1), y] (Value.ref (hp.objs.size + 1) :: (us ++ [])) := by rw [List.append_nil]; exact .cons rfl r1
  have hlu : us.length = 1 := by have := r1.length; simpa using this.symm
  have kin : g.K.In hp := by rw [← hK]; exact I1.kIn
  have F1 := sup_fn (w := X.w) (base := X.base) (CX := L2.CX X.prog X.w) Z.sup
  have e2 : Env0 X.prog X.w g.K g.mg X.base (X.A.under (.builtin "type.__call__" ⟨.ref C :: us, []⟩)) X.stack ⟨(hp.push (PySem.W.kdv_tup us)).push (PySem.HandSPX.excO C hp.objs.size), gg, dr, tk, os⟩ (upd H1 (hp.objs.size + 1) (exo (hp.objs.size + 1) C none)) := by
    rw [← hK, ← hM]
    exact I2.env0.make C us []
  have sp : spSup C (fldOf c) [V.ref (hp.objs.size + 1), y] (upd H1 (hp.objs.size + 1) (exo (hp.objs.size + 1) C none)) (fun v H2 => v = .non ∧ Q (.ref (hp.objs.size + 1)) H2) (fun _ _ _ => False) :=
    ⟨_, y, rfl, upd_same, fun dx hd ne => ⟨rfl, by rw [upd_back ne]; exact q1 _ dx hn (by rw [upd_ne ne] at hd; exact hd) ne⟩⟩
  refine wpAny_call (PySem.HandSPX.call_own F.excBase_ValueError (fun Y => PySem.HandSPX.refsVE_contains Y bm hbm) (kin _ _ hC) (PySem.W.looks_findIn kin Z.ini) (fun self => PySem.W.bind_fn kin self Z.fn) (by rw [hlu]; decide)
    (codeAny_mono (F1.run _ X.stack _ _ ⟨Value.ref (hp.objs.size + 1) :: us, []⟩ (Value.ref (hp.objs.size + 1) :: (us ++ [])) _ _ (fun _ _ _ => False) (hr.make C us []) e2 (Z.bd _ (Value.ref (hp.objs.size + 1) :: us) (by have := I2.kIn; rw [hK] at this; exact this) (by simp [hlu])) r2 sp) fun r s' hq' => ?_))
  cases r with
  | error er =>
    obtain ⟨_, _, _, _, _, _, _, _, _, _, _, _, z⟩ := hq'
    exact z.elim
  | ok fl =>
    cases fl with
    | ret u =>
      obtain ⟨v, H2, J, rv, ev, q2⟩ := I2.after hq'
      subst ev
      exact ⟨rv, .ref _, H2, J, rfl, q2⟩
    | next => exact False.elim hq'
    | brk => exact False.elim hq'
    | cont => exact False.elim hq'
/-- a new error is held as a value -/
theorem exn_new {w : Wd} {H : Hp} {h : Hh} {a dx : Addr} {y : V} {d : D} (hr : HR g w h H) (hc : g.mg c = some (.ref C)) (rv : RV g w H d y) (ha : H a = none) (hd : H dx = none) (ne : dx ≠ a) :
    ∃ w', Later w H w' (upd (upd H dx (exd dx [(fldOf c, y)])) a (exo a C (some dx))) ∧ HR g w' h (upd (upd H dx (exd dx [(fldOf c, y)])) a (exo a C (some dx))) ∧ RV g w' (upd (upd H dx (exd dx [(fldOf c, y)])) a (exo a C (some dx))) (.exn c [d]) (.ref a) := by
  have l1 := later_lay (o := exd dx [(fldOf c, y)]) hr hd
  have h1 := hr_lay (o := exd dx [(fldOf c, y)]) hr hd
  have ha' : upd H dx (exd dx [(fldOf c, y)]) a = none := by rw [upd_ne (Ne.symm ne)]; exact ha
  have l2 := later_lay (o := exo a C (some dx)) h1 ha'
  have h2 := hr_lay (o := exo a C (some dx)) h1 ha'
  refine ⟨_, l1.trans l2, h2, .exn (fs := [(fldOf c, y)]) ⟨.inl rfl, .inr ⟨dx, upd_same, .inr (.inl rfl), by rw [upd_ne ne, upd_same]⟩⟩ hc rfl (.cons (rv.mono (l1.trans l2)) .nil)⟩
theorem q_exn (xo : XO g X) (Z : ExC X.prog g c C fI fd se x) (hr : Room 2 X.A) (hg : Gl X c) (ha : PA X [e] (tL g W fs))
    (hdb : (c == ("__debug__" : Str)) = false := by decide +kernel) (he : starEach [e] X.env = [(false, eval e X.env)] := by rfl) : PE X (.Call (.Name c p) [e] [] pos) (tI g W (xExn c 1 fs)) :=
  ⟨fun pins s σ H Q I ⟨w, ρ, h, sr, o⟩ => (pe_oexV Z xo.K xo.mg hr hg ha hdb he).run pins s σ H Q I (tL_go sr o fun Vs H1 w1 ds h1 l sr1 rvs o1 => by
    split at o1
    · rename_i hl
      obtain ⟨d, rfl⟩ := List.length_eq_one_iff.mp hl
      cases rvs with
      | @cons _ y _ _ rv t =>
        cases t
        refine ⟨y, rfl, fun a dx na nd ne => ?_⟩
        obtain ⟨w2, l2, h2, r2⟩ := exn_new sr1.hr Z.mg rv na nd ne
        exact o1 w2 _ _ l2 h2 r2
    · exact o1.elim)⟩
theorem xd_new {H : Hp} {a dx : Addr} {y : V} {f : Str} (ha : H a = none) (ne : dx ≠ a) : upd (del (upd (upd H dx (exd dx [(f, y)])) a (exo a C (some dx))) a) dx (.xd [(f, y)]) = upd H dx (.xd [(f, y)]) := by
  funext b
  by_cases hb : b = dx
  · rw [hb, upd_same, upd_same]
  · rw [upd_ne hb, upd_ne hb]
    by_cases h2 : b = a
    · rw [h2, del_same, ha]
    · rw [del_ne h2, upd_ne h2, upd_ne hb]
theorem w_raise (xo : XO g X) (tk : Takes X W) (Z : ExC X.prog g c C fI fd se x) (hr : Room 2 X.A) (hg : Gl X c) (ha : PA X [e] (tL g W fs))
    (hdb : (c == ("__debug__" : Str)) = false := by decide +kernel) (he : starEach [e] X.env = [(false, eval e X.env)] := by rfl) {pos' : Pos} : PS X (.Raise (some (.Call (.Name c p) [e] [] pos)) none pos') (tS g W (zRaise c 1 fs)) := by
  have hT : OexC X.K C := by rw [xo.K]; exact Z.sup.T
  have F1 : FnOk X.prog X.w X.K X.mg X.base (fun _ _ _ _ _ _ => False) 1 fI fd [se, x] (spSup C (fldOf c)) := by rw [xo.K, xo.mg]; exact sup_fn Z.sup
  have mk := pmk_oex (X := X) (x := c) (p := p) (pos := pos) (ta := tL g W fs) (ds := []) (dvs := []) hT (by rw [xo.K]; exact Z.ini) (by rw [xo.K]; exact Z.fn) F1 hr (by rw [xo.K]; exact Z.bd) .nil (fun _ _ _ _ _ _ _ z => z.elim) hg (by rw [xo.mg]; exact Z.mg) ha hdb he rfl
  refine ⟨fun pins s σ H Dn I ⟨w, ρ, h, sr, o⟩ => (ps_raise xo.calm tk mk).run pins s σ H Dn I ?_⟩
  show tL g W fs σ H _
  unfold zRaise at o
  refine ⟨w, ρ, h, sr, ?_⟩
  cases e1 : fs ρ h with
  | bad => rw [e1] at o; exact o.elim
  | exc c' ds' h' =>
    rw [e1] at o
    exact fun w' H' C' d' l hr' xr => o w' H' σ C' d' l (sr.step l hr') xr
  | ok ds h1 =>
    rw [e1] at o
    intro w1 H1 Vs l hr1 rvs
    simp only [SRes.of] at o
    split at o
    · rename_i hl
      obtain ⟨d, rfl⟩ := List.length_eq_one_iff.mp hl
      cases rvs with
      | @cons _ y _ _ rv t =>
        cases t
        refine ⟨by simp, fun a na => ⟨a, y, rfl, upd_same, fun dx nd ne => ⟨rfl, dx, [(fldOf c, y)], upd_same, by rw [upd_ne ne, upd_same], by rw [upd_ne ne] at nd; exact nd, ?_⟩⟩⟩
        rw [upd_back ne, xd_new na ne]
        have nd' : H1 dx = none := by rw [upd_ne ne] at nd; exact nd
        exact o w1 _ σ C (some dx) (l.trans (later_new hr1 nd')) ((sr.step l hr1).step (later_new hr1 nd') (hr_new hr1 nd')) ⟨Z.mg, .inr ⟨dx, _, rfl, upd_same, rfl, .cons (rv.mono (later_new hr1 nd')) .nil⟩⟩
    · exact o.elim
end
end Bx
namespace Bx
open PySem PySem.Spec PyProof.Rows L2
/-- what the written part says of an error's class -/
structure ExK (K : PySem.W.Frag) (C : Addr) : Prop where
  cl : (PySem.W.clsIn K C).isSome = true
  ga : PySem.W.findIn K (.ref C) "__getattribute__" = some (some (.builtin "BaseException.__getattribute__"))
  gg : PySem.W.findIn K (.ref C) "__getattr__" = some none
  ex : PySem.W.subIn K (.ref C) (.type "BaseException") = some true
  hd : PySem.W.hasDictIn K C = true
  ca : PySem.W.findIn K (.ref C) "__class__" = some (some (.builtin "object.__class__"))
  cg : PySem.W.specialIn K (.builtin "object.__class__") "__get__" = some (some (.builtin "getset_descriptor.__get__"))
  ct : PySem.W.takesIn K (.builtin "object.__class__") = some true
  ob : PySem.W.mroIn K C (.type "object") = some true
section
variable {g : Gx} {W : WX} {X : Cx} {w : Wd} {H : Hp} {a C : Addr} {fs : List (Str × V)}
theorem ExAt.inst {pins : List (Addr × Obj)} {σ : L2.St} {s : Shared} (I : Inv X pins σ H s) (x : ExAt w H a C fs) : ∃ ox od, PySem.W.InstAt s.heap a ox C od ∧ (∀ n v, fs.lookup n = some v → ∃ o u, od = some o ∧ PySem.W.lookIn n o = some (some u) ∧ RelV v u) := by
  obtain ⟨_, x⟩ := x
  rcases x with ⟨rfl, e⟩ | ⟨d, e, _, ed⟩
  · obtain ⟨t1, ho⟩ := exo_at I.hok e
    exact ⟨_, none, ⟨ho, rfl, rfl, trivial⟩, fun n v z => by simp at z⟩
  · obtain ⟨t1, ho⟩ := exo_at I.hok e
    obtain ⟨mA, hns, hr⟩ := exd_at I.hok ed
    obtain ⟨od, hod, hl⟩ := lookIn_ns hns
    refine ⟨_, some od, ⟨ho, rfl, rfl, hod⟩, fun n v z => ?_⟩
    obtain ⟨u, hu, ru⟩ := RelO.some_of (v := v) (o := mA n) (by rw [← z]; exact hr n)
    exact ⟨od, u, rfl, by rw [hl, hu], ru⟩
/-- isinstance(e, c) -/
def rIsX (K : PySem.W.Frag) : List V → Hp → VK → Prop := fun xs H Q => ∃ (a C : Addr) (w : Wd) (fs : List (Str × V)) (c : V) (cv : Value) (b : Bool), xs = [.ref a, c] ∧ ExAt w H a C fs ∧ ExK K C ∧ (∀ u, RelV c u → u = cv) ∧ PySem.W.kitOne K (.ref C) cv = some b ∧ Q (.bl b) H
theorem call_isX : CallR X (.builtin "isinstance") (rIsX X.K) := by
  intro pins s σ H xs us Q I r h
  obtain ⟨a, C, w, fs, c, cv, b, rfl, x, k, hcv, e, q⟩ := h
  cases r with
  | cons rx rr =>
    cases rr with
    | cons rt rr =>
      cases rr
      cases rx
      have ec := hcv _ rt
      subst ec
      obtain ⟨ox, od, J, _⟩ := x.inst I
      exact PySem.W.kia_one (PySem.W.kitx_exc k.cl k.ga k.gg k.ex k.ca k.cg k.ct k.ob) I.kIn J e (fun z => nomatch z) fun tk => ⟨.bl b, H, I.kept (t' := tk) fun _ _ z => z, rfl, q⟩
/-- isinstance(e, c): by the class's name -/
def xIsE (tb : List (Str × Bool)) (f : Fn) : Fn := fun ρ h => (f ρ h).bind fun d h1 => match d with
  | .exn c _ => match tb.lookup c with
    | some b => .ok (.bl b) h1
    | none => .bad
  | _ => .bad
/-- e.f -/
def xFld (ns : List Str) (n : Str) (f : Fn) : Fn := fun ρ h => (f ρ h).bind fun d h1 => match d with
  | .exn c [x] => if ns.contains c && decide (fldOf c = n) then .ok x h1 else .bad
  | _ => .bad
variable {e : Expr} {f : Fn} {p p1 pos : Pos}
/-- isinstance(e, N), N a class of the module -/
theorem q_isE (xo : XO g X) {n : Str} {tb : List (Str × Bool)} {cv : Value} {v : V} (hg : Gl X "isinstance") (hm : g.mg "isinstance" = none) (hn : PE X (.Name n p1) (tC v)) (hv : ∀ u, RelV v u → u = cv)
    (ht : ∀ c b, tb.lookup c = some b → ∀ C, g.mg c = some (.ref C) → ExK g.K C ∧ PySem.W.kitOne g.K (.ref C) cv = some b)
    (he : PE X e (tI g W f)) (hs : starEach [e, .Name n p1] X.env = (false, eval e X.env) :: starEach [.Name n p1] X.env := by rfl) (hs2 : starEach [.Name n p1] X.env = [(false, eval (.Name n p1) X.env)] := by rfl) :
    PE X (.Call (.Name "isinstance" p) [e, .Name n p1] [] pos) (tI g W (xIsE tb f)) := by
  have cl := pe_callB (p := p) (pos := pos) (call_isX (X := X)) hg (by rw [xo.mg]; exact hm) (by decide +kernel) (pa_cons he (pa_cons hn pa_nil hs2) hs) (by decide +kernel) (by decide +kernel) hs (by rw [hs2]; rfl)
  refine ⟨fun pins s σ H Q I ⟨w, ρ, h, sr, o⟩ => cl.run pins s σ H Q I (tI_go sr o fun V H1 w1 d h1 l sr1 rv o1 => ?_)⟩
  cases d with
  | exn c ds =>
    dsimp only at o1
    cases hb : tb.lookup c with
    | none => rw [hb] at o1; exact o1.elim
    | some b =>
      rw [hb] at o1
      cases rv with
      | @exn a C _ fs _ x hc hf t =>
        obtain ⟨k1, k2⟩ := ht c b hb C hc
        exact ⟨a, C, w1, fs, v, cv, b, rfl, x, by rw [xo.K]; exact k1, hv, by rw [xo.K]; exact k2, o1 w1 H1 _ (Later.refl w1 H1) sr1.hr (.bl b)⟩
  | _ => exact o1.elim
/-- e.n -/
theorem q_fld (xo : XO g X) {ns : List Str} {n : Str} (ht : ∀ c C, c ∈ ns → fldOf c = n → g.mg c = some (.ref C) → ExK g.K C ∧ PySem.W.findIn g.K (.ref C) n = some none) (he : PE X e (tI g W f)) (hb : attributeBase e n X.env (eval e X.env) = eval e X.env := by rfl) :
    PE X (.Attribute e n pos) (tI g W (xFld ns n f)) := by
  refine ⟨fun pins s σ H Q I ⟨w, ρ, h, sr, o⟩ => ?_⟩
  have rd : tI g W f σ H (fun V H1 => ∃ (a C : Addr) (w1 : Wd) (fs : List (Str × L2.V)) (v : L2.V), V = .ref a ∧ ExAt w1 H1 a C fs ∧ ExK g.K C ∧ PySem.W.findIn g.K (.ref C) n = some none ∧ fs.lookup n = some v ∧ Q v H1) := tI_go sr o fun V H1 w1 d h1 l sr1 rv o1 => by
    cases d with
    | exn c ds =>
      cases ds with
      | nil => exact o1.elim
      | cons x ds =>
        cases ds with
        | cons _ _ => exact o1.elim
        | nil =>
          dsimp only at o1
          split at o1
          · rename_i hf
            simp only [Bool.and_eq_true, decide_eq_true_eq, List.contains_iff_mem] at hf
            obtain ⟨hin, hf⟩ := hf
            cases rv with
            | @exn a C _ fs _ xa hc hn t =>
              obtain ⟨k1, k2⟩ := ht c C hin hf hc
              cases fs with
              | nil => simp at hn
              | cons q r =>
                cases t with
                | cons rx t =>
                  have hr : r = [] := by
                    have := t.length
                    cases r with
                    | nil => rfl
                    | cons _ _ => simp at this
                  subst hr
                  obtain ⟨n', v⟩ := q
                  simp only [List.map_cons, List.map_nil, List.cons.injEq, and_true] at hn
                  exact ⟨a, C, w1, [(n', v)], v, rfl, xa, k1, k2, by rw [hn, hf]; simp [List.lookup], o1 w1 H1 _ (Later.refl w1 H1) sr1.hr rx⟩
          · exact o1.elim
    | _ => exact o1.elim
  refine attr_of hb (thn (he.run pins s σ H _ I rd) fun u s1 hh => ?_)
  · obtain ⟨x, H1, I1, rx, a, C, w1, fs, v, ex, xa, k1, k2, hl, q⟩ := hh
    subst ex
    obtain rfl : u = Value.ref a := rx
    obtain ⟨ox, od, J, fd⟩ := xa.inst I1
    obtain ⟨o1, u, rfl, hu, ru⟩ := fd n v hl
    have kin : g.K.In s1.heap := by rw [← xo.K]; exact I1.kIn
    exact HandSPX.exc_get kin J k1.ga k1.gg k1.ex (PySem.W.findObj_own k1.hd k2 rfl (by rw [hu])) (handed_of ru) ⟨v, H1, I1.tok _, ru, q⟩
end
end Bx
namespace Bx
open PySem PySem.Spec PyProof.Rows L2
section
variable {g : Gx} {W : WX} {X : Cx} {c : Str} {C : Addr} {p pos : Pos}
theorem pe_exc0 (q : PySem.W.excIn X.K C [.type "ValueError", .type "Exception", .type "BaseException", .type "object"] "ValueError.__new__" = true) (gC : X.mg c = some (.ref C)) (kC : PySem.W.keepIn X.K (.ref C) = true) (hg : Gl X c) (hdb : (c == ("__debug__" : Str)) = false := by decide +kernel) :
    PE X (.Call (.Name c p) [] [] pos) (fun σ H Q => ∀ a, H a = none → Q (.ref a) (upd H a (exo a C none))) := by
  refine ⟨fun pins s σ H Q I h => ?_⟩
  refine wpAny_Call_Name_kw (ld_glob I hg gC ?_ hdb)
  refine PySem.W.callWith_K0 I.kIn kC ?_
  show wpAny _ _ (call (.ref C) []) _ _ _
  obtain ⟨bm, N, nm, qn, bs, hdct, sn, sub, ab, col, dd, k0, k1, k2, k3, k5, mN, hC, hN, hni, T⟩ := exc_obj I.kIn q
  refine wpAny_call_exc_subT F.excBase_ValueError T hC hN hni (fun h' a hm => ?_) (by decide)
  have hn : H a = none := I.hok.gone hm.new
  obtain ⟨t, ht, _, _⟩ := hm.there
  exact ⟨.ref a, upd H a (exo a C none), I.laidN hm.keeps hm.new hn (exo_ok ht), rfl, h a hn⟩
theorem q_exn0 (xo : XO g X) (q : PySem.W.excIn g.K C [.type "ValueError", .type "Exception", .type "BaseException", .type "object"] "ValueError.__new__" = true) (gC : g.mg c = some (.ref C)) (kC : PySem.W.keepIn g.K (.ref C) = true) (hg : Gl X c) (hdb : (c == ("__debug__" : Str)) = false := by decide +kernel) :
    PE X (.Call (.Name c p) [] [] pos) (tI g W (xExn c 0 xNil)) :=
  ⟨fun pins s σ H Q I ⟨w, ρ, h, sr, o⟩ => (pe_exc0 (by rw [xo.K]; exact q) (by rw [xo.mg]; exact gC) (by rw [xo.K]; exact kC) hg hdb).run pins s σ H Q I fun a na => by
    have o : OKg g (RV g) w H (wAt W σ) Q (.ok (.exn c []) h) := o
    exact o _ _ _ (later_lay sr.hr na) (hr_lay sr.hr na) (.exn (fs := []) ⟨.inl rfl, .inl ⟨rfl, upd_same⟩⟩ gC rfl .nil)⟩
end
end Bx
namespace Bx
open PySem PySem.Spec PyProof.Rows L2
/-- an error with one field -/
def ErC (P : Program) (g : Gx) (c : Str) : Prop := ∃ C fI fd se x, ExC P g c C fI fd se x
/-- an error without a field -/
def Er0 (g : Gx) (c : Str) : Prop := ∃ C, g.mg c = some (.ref C) ∧ PySem.W.excIn g.K C [.type "ValueError", .type "Exception", .type "BaseException", .type "object"] "ValueError.__new__" = true ∧ PySem.W.keepIn g.K (.ref C) = true
/-- an error of the class c is one of c' -/
def subT (c c' : Str) : Bool := decide (c = c') || decide (c' = "WayError")
def exKB (K : PySem.W.Frag) (C : Addr) : Bool :=
  (PySem.W.clsIn K C).isSome && (decide (PySem.W.findIn K (.ref C) "__getattribute__" = some (some (.builtin "BaseException.__getattribute__"))) && (decide (PySem.W.findIn K (.ref C) "__getattr__" = some none) && (decide (PySem.W.subIn K (.ref C) (.type "BaseException") = some true) &&
  (PySem.W.hasDictIn K C && (decide (PySem.W.findIn K (.ref C) "__class__" = some (some (.builtin "object.__class__"))) && (decide (PySem.W.specialIn K (.builtin "object.__class__") "__get__" = some (some (.builtin "getset_descriptor.__get__"))) && (decide (PySem.W.takesIn K (.builtin "object.__class__") = some true) && decide (PySem.W.mroIn K C (.type "object") = some true))))))))
theorem exKB_ok {K : PySem.W.Frag} {C : Addr} (h : exKB K C = true) : ExK K C := by
  simp only [exKB, Bool.and_eq_true, decide_eq_true_eq] at h
  obtain ⟨h1, h2, h3, h4, h5, h6, h7, h8, h9⟩ := h
  exact ⟨h1, h2, h3, h4, h5, h6, h7, h8, h9⟩
/-- all that is asked of the classes as -/
def erB (K : PySem.W.Frag) (as : List (Str × Addr)) : Bool := as.all fun a => exKB K a.2 && (decide (PySem.W.findIn K (.ref a.2) (fldOf a.1) = some none) && (decide (PySem.W.kitOne K (.ref a.2) (.type "ValueError") = some true) && as.all fun b => decide (PySem.W.kitOne K (.ref a.2) (.ref b.2) = some (subT a.1 b.1))))
/-- the errors of the module -/
structure ErK (g : Gx) (as : List (Str × Addr)) : Prop where
  mg : ∀ a ∈ as, g.mg a.1 = some (.ref a.2)
  ok : erB g.K as = true
section
variable {P : Program} {g : Gx} {W : WX} {X : Cx} {c : Str} {k : Nat} {e : Expr} {f : Fn} {fs : Fl} {p p1 pos : Pos} {as : List (Str × Addr)}
theorem ErK.at {C : Addr} (Z : ErK g as) (hc : c ∈ as.map (·.1)) (hm : g.mg c = some (.ref C)) : (c, C) ∈ as ∧ ExK g.K C ∧ PySem.W.findIn g.K (.ref C) (fldOf c) = some none ∧ PySem.W.kitOne g.K (.ref C) (.type "ValueError") = some true ∧ ∀ b ∈ as, PySem.W.kitOne g.K (.ref C) (.ref b.2) = some (subT c b.1) := by
  obtain ⟨⟨c', C'⟩, ha, rfl⟩ := List.mem_map.mp hc
  have e := Z.mg _ ha
  rw [hm] at e
  cases e
  have z := List.all_eq_true.mp Z.ok _ ha
  simp only [Bool.and_eq_true, decide_eq_true_eq, List.all_eq_true] at z
  exact ⟨ha, exKB_ok z.1, z.2.1, z.2.2.1, fun b hb => z.2.2.2 b hb⟩
theorem look_map {tb : List Str} {v : Str → Bool} {b : Bool} (h : (tb.map fun x => (x, v x)).lookup c = some b) : c ∈ tb ∧ b = v c := by
  induction tb with
  | nil => simp at h
  | cons x tb ih =>
    rw [List.map_cons, List.lookup_cons] at h
    by_cases e : c = x
    · subst e
      simp at h
      exact ⟨by simp, h.symm⟩
    · have : (c == x) = false := by simpa using e
      rw [this] at h
      have := ih h
      exact ⟨by simp [this.1], this.2⟩
theorem v_exn (xo : XO g X) (hP : X.prog = P) (Z : ErC P g c) (hr : RmG k X.A) (hg : Gl X c) (ha : PA X [e] (tL g W fs)) (hdb : (c == ("__debug__" : Str)) = false := by decide +kernel) (he : starEach [e] X.env = [(false, eval e X.env)] := by rfl) :
    PE X (.Call (.Name c p) [e] [] pos) (tI g W (xExn c 1 fs)) := by
  obtain ⟨C, fI, fd, se, x, Z⟩ := Z
  subst hP
  exact q_exn xo Z (hr.rm.mono (by omega)) hg ha hdb he
theorem v_raise (xo : XO g X) (hP : X.prog = P) (tk : Takes X W) (Z : ErC P g c) (hr : RmG k X.A) (hg : Gl X c) (ha : PA X [e] (tL g W fs)) (hdb : (c == ("__debug__" : Str)) = false := by decide +kernel) (he : starEach [e] X.env = [(false, eval e X.env)] := by rfl) {pos' : Pos} :
    PS X (.Raise (some (.Call (.Name c p) [e] [] pos)) none pos') (tS g W (zRaise c 1 fs)) := by
  obtain ⟨C, fI, fd, se, x, Z⟩ := Z
  subst hP
  exact w_raise xo tk Z (hr.rm.mono (by omega)) hg ha hdb he
theorem v_exn0 (xo : XO g X) (Z : Er0 g c) (hg : Gl X c) (hdb : (c == ("__debug__" : Str)) = false := by decide +kernel) : PE X (.Call (.Name c p) [] [] pos) (tI g W (xExn c 0 xNil)) := by
  obtain ⟨C, gC, q, kC⟩ := Z
  exact q_exn0 xo q gC kC hg hdb
/-- isinstance(e, c), c an error's class -/
theorem v_isE (xo : XO g X) (Z : ErK g as) (hc : c ∈ as.map (·.1)) (hi : Gl X "isinstance") (hm : g.mg "isinstance" = none) (hg : Gl X c) (he : PE X e (tI g W f)) (hdb : (c == ("__debug__" : Str)) = false := by decide +kernel)
    (hs : starEach [e, .Name c p1] X.env = (false, eval e X.env) :: starEach [.Name c p1] X.env := by rfl) (hs2 : starEach [.Name c p1] X.env = [(false, eval (.Name c p1) X.env)] := by rfl) :
    PE X (.Call (.Name "isinstance" p) [e, .Name c p1] [] pos) (tI g W (xIsE ((as.map (·.1)).map fun x => (x, subT x c)) f)) := by
  obtain ⟨⟨c', C⟩, ha, rfl⟩ := List.mem_map.mp hc
  refine q_isE xo hi hm (pe_glob (v := .ref C) hg (by rw [xo.mg]; exact Z.mg _ ha) rfl hdb) (cv := .ref C) (fun u hu => hu) (fun c b hl C2 hm2 => ?_) he hs hs2
  obtain ⟨hin, rfl⟩ := look_map (v := fun x => subT x c') hl
  obtain ⟨_, k1, _, _, k2⟩ := Z.at hin hm2
  exact ⟨k1, k2 _ ha⟩
theorem v_isV (xo : XO g X) (Z : ErK g as) (hi : Gl X "isinstance") (hm : g.mg "isinstance" = none) (hg : Gl X "ValueError") (hv : g.mg "ValueError" = none) (he : PE X e (tI g W f))
    (hs : starEach [e, .Name "ValueError" p1] X.env = (false, eval e X.env) :: starEach [.Name "ValueError" p1] X.env := by rfl) (hs2 : starEach [.Name "ValueError" p1] X.env = [(false, eval (.Name "ValueError" p1) X.env)] := by rfl) :
    PE X (.Call (.Name "isinstance" p) [e, .Name "ValueError" p1] [] pos) (tI g W (xIsE ((as.map (·.1)).map fun x => (x, true)) f)) := by
  refine q_isE xo hi hm (pe_bltn (v := .ty "ValueError") hg (by rw [xo.mg]; exact hv) (by decide +kernel) rfl (by decide +kernel) (by decide +kernel)) (cv := .type "ValueError") (fun u hu => hu) (fun c b hl C2 hm2 => ?_) he hs hs2
  obtain ⟨hin, rfl⟩ := look_map (v := fun _ => true) hl
  obtain ⟨_, k1, _, k2, _⟩ := Z.at hin hm2
  exact ⟨k1, k2⟩
theorem v_fld (xo : XO g X) (Z : ErK g as) {n : Str} (he : PE X e (tI g W f)) (hb : attributeBase e n X.env (eval e X.env) = eval e X.env := by rfl) : PE X (.Attribute e n pos) (tI g W (xFld (as.map (·.1)) n f)) :=
  q_fld xo (fun c C hin hf hm => by
    obtain ⟨_, k1, k2, _, _⟩ := Z.at hin hm
    rw [← hf]
    exact ⟨k1, k2⟩) he hb
/-- the errors of the module, by their names -/
def ErN (g : Gx) (ns : List Str) : Prop := ∃ as : List (Str × Addr), as.map (·.1) = ns ∧ ErK g as
theorem u_isE {ns : List Str} (xo : XO g X) (Z : ErN g ns) (hc : c ∈ ns) (hi : Gl X "isinstance") (hm : g.mg "isinstance" = none) (hg : Gl X c) (he : PE X e (tI g W f)) (hdb : (c == ("__debug__" : Str)) = false := by decide +kernel)
    (hs : starEach [e, .Name c p1] X.env = (false, eval e X.env) :: starEach [.Name c p1] X.env := by rfl) (hs2 : starEach [.Name c p1] X.env = [(false, eval (.Name c p1) X.env)] := by rfl) :
    PE X (.Call (.Name "isinstance" p) [e, .Name c p1] [] pos) (tI g W (xIsE (ns.map fun x => (x, subT x c)) f)) := by
  obtain ⟨as, rfl, Z⟩ := Z
  exact v_isE xo Z hc hi hm hg he hdb hs hs2
theorem u_isV {ns : List Str} (xo : XO g X) (Z : ErN g ns) (hi : Gl X "isinstance") (hm : g.mg "isinstance" = none) (hg : Gl X "ValueError") (hv : g.mg "ValueError" = none) (he : PE X e (tI g W f))
    (hs : starEach [e, .Name "ValueError" p1] X.env = (false, eval e X.env) :: starEach [.Name "ValueError" p1] X.env := by rfl) (hs2 : starEach [.Name "ValueError" p1] X.env = [(false, eval (.Name "ValueError" p1) X.env)] := by rfl) :
    PE X (.Call (.Name "isinstance" p) [e, .Name "ValueError" p1] [] pos) (tI g W (xIsE (ns.map fun x => (x, true)) f)) := by
  obtain ⟨as, rfl, Z⟩ := Z
  exact v_isV xo Z hi hm hg hv he hs hs2
theorem u_fld {ns : List Str} (xo : XO g X) (Z : ErN g ns) {n : Str} (he : PE X e (tI g W f)) (hb : attributeBase e n X.env (eval e X.env) = eval e X.env := by rfl) : PE X (.Attribute e n pos) (tI g W (xFld ns n f)) := by
  obtain ⟨as, rfl, Z⟩ := Z
  exact v_fld xo Z he hb
end
end Bx
namespace Bx
open PySem PySem.Spec PyProof.Rows L2
section
variable {P : Program} {K : PySem.W.Frag} {mg : Str → Option Value} {T : List (Addr × Str)} {h : Heap} {c se x : Str}
theorem erC_mk {C fI cda cc : Addr} {name qual : Str} {params : Arguments} {scope : Scope} {dV kV doc pm ct oc ccl cl : Value} {an od cdd cld : Option Addr} {osl ccs csl : Array (Option Value)} {vs : Array Value} {file : Str} {tf : Tok} {p0 p1 p2 p3 p4 p5 p6 p7 p8 p9 : Pos}
    {nm q : Str} {NN : Addr} {bs bm : List Value} {sn : List Str} {sub : List Value} {ab : Bool} {col : Option Bool} {dd : Option Addr} {k0 k1 k2 k3 k5 : Option Value}
    (X : K.In h) (N : h.Ns mainGlobals mg)
    (a : PySem.W.nsIn K mainGlobals c = some (some (.ref C)))
    (i : PySem.W.findIn K (.ref C) "__init__" = some (some (.ref fI)))
    (l : K.lookup fI = some ⟨oc, od, .func (PySem.W.ksFn name qual params (supBody se x (fldOf c) p0 p1 p2 p3 p4 p5 p6 p7 p8 p9) scope dV kV doc pm an (.ref cda) ct cc), osl⟩)
    (cd : PySem.W.codeIn K (.ref cda) qual = true)
    (lc : K.lookup cda = some ⟨ccl, cdd, .fields vs, ccs⟩)
    (ce : K.lookup cc = some ⟨cl, cld, .cell (some (.ref C)), csl⟩)
    (oC : K.lookup C = some (excClassObj nm q C NN bs bm true sn sub ab col dd k0 k1 k2 k3 k5 "ValueError.__new__"))
    (sa : PySem.W.findIn K (.ref C) "__setattr__" = some (some (.builtin "object.__setattr__")))
    (bx : PySem.W.subIn K (.ref C) (.type "BaseException") = some true)
    (ty : PySem.W.typeIn K (.ref C) = some (.type "type"))
    (kC : PySem.W.keepIn K (.ref C) = true)
    (tf1 : PySem.W.typeIn K (.ref fI) = some (.type "function"))
    (su : PySem.W.nsIn K mainGlobals "super" = some none)
    (oq : PySem.W.nsIn K cStatics "thirdparty.any" = some none)
    (ve : PySem.W.subIn K (.ref C) (.type "ValueError") = some true)
    (mr : PySem.W.mroIn K C (.ref C) = some true)
    (ni : PySem.W.ks_superIn K C C "__init__" = some (some (.builtin "ValueError.__init__")))
    (xi : PySem.W.excInitIn K C [.type "ValueError", .type "Exception", .type "BaseException", .type "object"] "ValueError.__new__" = true)
    (fo : PySem.W.findIn K (.ref C) (fldOf c) = some none)
    (v2 : vs[2]? = some (.str file tf)) (fl : ((P.main.file : Str) == file) = true)
    (hp : ((params.posonlyargs ++ params.args).head?.map (·.arg)) = some se)
    (s1 : scope.names.lookup ("super" : Str) = some .globalImplicit) (s2 : scope.names.lookup ("__class__" : Str) = some .free) (s3 : scope.names.lookup se = some .local) (s4 : scope.names.lookup x = some .local)
    (s5 : scope.names.all (fun y => decide (y.2 ≠ .cell)) = true) (s6 : scope.isCoroutine = false) (s7 : scope.isGenerator = false) (s8 : scope.kind = .function)
    (ev : ∀ L : Addr, interactive (callEnv (PySem.W.ksFn name qual params (supBody se x (fldOf c) p0 p1 p2 p3 p4 p5 p6 p7 p8 p9) scope dV kV doc pm an (.ref cda) ct cc) L fI) = false ∧
      swapsWith (.Call (.Attribute (.Call (.Name "super" p0) [] [] p1) "__init__" p2) [.Name x p3] [] p4) none p5.line (callEnv (PySem.W.ksFn name qual params (supBody se x (fldOf c) p0 p1 p2 p3 p4 p5 p6 p7 p8 p9) scope dV kV doc pm an (.ref cda) ct cc) L fI) = pure false ∧
      swapsWith (.Name x p8) (some (.Attribute (.Name se p6) (fldOf c) p7)) p9.line (callEnv (PySem.W.ksFn name qual params (supBody se x (fldOf c) p0 p1 p2 p3 p4 p5 p6 p7 p8 p9) scope dV kV doc pm an (.ref cda) ct cc) L fI) = pure false ∧
      starEach [.Name x p3] (callEnv (PySem.W.ksFn name qual params (supBody se x (fldOf c) p0 p1 p2 p3 p4 p5 p6 p7 p8 p9) scope dV kV doc pm an (.ref cda) ct cc) L fI) = [(false, eval (.Name x p3) (callEnv (PySem.W.ksFn name qual params (supBody se x (fldOf c) p0 p1 p2 p3 p4 p5 p6 p7 p8 p9) scope dV kV doc pm an (.ref cda) ct cc) L fI))] ∧
      ∃ pl : Sem Bool, eval (.Call (.Attribute (.Call (.Name "super" p0) [] [] p1) "__init__" p2) [.Name x p3] [] p4) (callEnv (PySem.W.ksFn name qual params (supBody se x (fldOf c) p0 p1 p2 p3 p4 p5 p6 p7 p8 p9) scope dV kV doc pm an (.ref cda) ct cc) L fI) = (do
        let ov ← attributeBase (.Call (.Name "super" p0) [] [] p1) "__init__" (callEnv (PySem.W.ksFn name qual params (supBody se x (fldOf c) p0 p1 p2 p3 p4 p5 p6 p7 p8 p9) scope dV kV doc pm an (.ref cda) ct cc) L fI) (eval (.Call (.Name "super" p0) [] [] p1) (callEnv (PySem.W.ksFn name qual params (supBody se x (fldOf c) p0 p1 p2 p3 p4 p5 p6 p7 p8 p9) scope dV kV doc pm an (.ref cda) ct cc) L fI))
        standAt p2.atName
        let (q, first) ← holding [ov] (getMethod ov "__init__" pl)
        callWith p4 q first (backTo p4 (starEach [.Name x p3] (callEnv (PySem.W.ksFn name qual params (supBody se x (fldOf c) p0 p1 p2 p3 p4 p5 p6 p7 p8 p9) scope dV kV doc pm an (.ref cda) ct cc) L fI))) []))
    (rf : PySem.HandSPX.refsVE bm = true) (n1 : se ≠ x) (n2 : (x == ("__debug__" : Str)) = false) (n3 : (se == ("__debug__" : Str)) = false)
    (tp : (P.main.scope.names.lookup ("super" : Str)).isSome = false)
    (bd : ∀ us : List Value, us.length = 2 → bindArgs (PySem.W.ksFn name qual params (supBody se x (fldOf c) p0 p1 p2 p3 p4 p5 p6 p7 p8 p9) scope dV kV doc pm an (.ref cda) ct cc) ⟨us, []⟩ = pure ([se, x].zip us)) :
    ErC P ⟨K, mg, T⟩ c :=
  ⟨C, fI, _, se, x, ⟨⟨⟨⟨nm, q, NN, bs, bm, sn, sub, ab, col, dd, k0, k1, k2, k3, k5, oC, rf⟩, sa, bx, ty, kC⟩,
    ⟨name, qual, params, scope, dV, kV, doc, pm, an, cda, ct, cc, oc, od, osl, p0, p1, p2, p3, p4, p5, p6, p7, p8, p9, rfl, l, cd, hp, ⟨ccl, cdd, vs, ccs, file, tf, lc, v2, fl⟩, ⟨cl, cld, csl, ce⟩, s1, s2, s3, s4,
      fun y hy => of_decide_eq_true (List.all_eq_true.mp s5 y hy), s6, s7, s8, ev⟩,
    n1, n2, n3, PySem.W.mg_none_of X N su, tp, mr, ni, oq, ve, xi, fo⟩, PySem.W.mg_of X N a, i, tf1, Binds.all bd⟩⟩
theorem er0_mk {C : Addr} (X : K.In h) (N : h.Ns mainGlobals mg) (a : PySem.W.nsIn K mainGlobals c = some (some (.ref C))) (q : PySem.W.excIn K C [.type "ValueError", .type "Exception", .type "BaseException", .type "object"] "ValueError.__new__" = true) (k : PySem.W.keepIn K (.ref C) = true) : Er0 ⟨K, mg, T⟩ c :=
  ⟨C, PySem.W.mg_of X N a, q, k⟩
theorem erN_nil : ∀ a ∈ ([] : List (Str × Addr)), mg a.1 = some (.ref a.2) := fun a h => by cases h
theorem erN_cons {C : Addr} {as : List (Str × Addr)} (X : K.In h) (N : h.Ns mainGlobals mg) (a : PySem.W.nsIn K mainGlobals c = some (some (.ref C))) (t : ∀ a ∈ as, mg a.1 = some (.ref a.2)) : ∀ a ∈ (c, C) :: as, mg a.1 = some (.ref a.2) := fun b hb => by
  rcases List.mem_cons.mp hb with rfl | hb
  · exact PySem.W.mg_of X N a
  · exact t b hb
theorem erN_mk {as : List (Str × Addr)} {ns : List Str} (m : ∀ a ∈ as, mg a.1 = some (.ref a.2)) (e : as.map (·.1) = ns) (b : erB K as = true) : ErN ⟨K, mg, T⟩ ns := ⟨as, e, m, b⟩
end
end Bx
namespace Bx
open PySem PySem.Spec PyProof.Rows L2
section
variable {g : Gx} {X : Cx} {a : Addr} {pn : List (Addr × Obj)}
theorem XP.suite (xp : XP g X) : XP g (X.suite a pn) := ⟨xp.K, xp.mg, xp.nd, xp.un, xp.gd⟩
end
/-- isinstance(e, N) of the error that the suite holds: its class is named c -/
def xIsC (a : Addr) (d : Option Addr) (c : Str) (b : Bool) (f : Fn) : Fn := fun ρ h => (f ρ h).bind fun x h1 => match x with
  | .cau a' d' c' _ => if a' = a ∧ d' = d ∧ c' = c then .ok (.bl b) h1 else .bad
  | _ => .bad
/-- e.n of it -/
def xFldC (a : Addr) (d : Option Addr) (c n : Str) (f : Fn) : Fn := fun ρ h => (f ρ h).bind fun x h1 => match x with
  | .cau a' d' c' [y] => if a' = a ∧ d' = d ∧ c' = c ∧ fldOf c = n then .ok y h1 else .bad
  | _ => .bad
section
variable {g : Gx} {W : WX} {X : Cx} {a C : Addr} {oe : Obj} {d : Option Addr} {pn : List (Addr × Obj)} {c : Str} {e : Expr} {f : Fn} {p p1 pos : Pos}
/-- the object that is held, with its dict -/
theorem pin_inst {pins : List (Addr × Obj)} {σ : L2.St} {H : Hp} {s : Shared} (I : Inv (X.suite a ((a, oe) :: pn)) pins σ H s) (hz : Zc (.ref C) d oe) (hf : ∃ vs, oe.data = .fields vs) (hd : d = none ∨ ∃ dd fs, d = some dd ∧ H dd = some (.xd fs)) :
    ∃ od, PySem.W.InstAt s.heap a oe C od ∧ ∀ dd fs, d = some dd → H dd = some (.xd fs) → ∀ n v, fs.lookup n = some v → ∃ o u, od = some o ∧ PySem.W.lookIn n o = some (some u) ∧ RelV v u := by
  obtain ⟨get, _⟩ := I.pin (a, oe) (List.mem_append_left _ (List.mem_cons_self ..))
  obtain ⟨vs, hv⟩ := hf
  have nc : PySem.W.notCls oe = true := by unfold PySem.W.notCls; rw [hv] <;> rfl
  rcases hd with hd | ⟨dd, fs, hd, hx⟩
  · subst hd
    exact ⟨none, ⟨get, hz.1, nc, by rw [hz.2]; trivial⟩, fun dd fs e => by cases e⟩
  · subst hd
    obtain ⟨mA, hns, hr⟩ := (I.hok dd _ hx : ObjOk X.prog X.w H s.heap dd (.xd fs))
    obtain ⟨od, ho, hl⟩ := lookIn_ns hns
    refine ⟨some od, ⟨get, hz.1, nc, by rw [hz.2]; exact ho⟩, fun dd' fs' e hx' n v ln => ?_⟩
    cases e
    rw [hx] at hx'
    cases hx'
    obtain ⟨u, hu, ru⟩ := RelO.some_of (v := v) (o := mA n) (by rw [← ln]; exact hr n)
    exact ⟨od, u, rfl, by rw [hl, hu], ru⟩
def rIsP (K : PySem.W.Frag) (C a : Addr) (d : Option Addr) : List V → Hp → VK → Prop := fun xs H Q => ∃ (z : V) (cv : Value) (b : Bool), xs = [.ref a, z] ∧ (d = none ∨ ∃ dd fs, d = some dd ∧ H dd = some (.xd fs)) ∧ (∀ u, RelV z u → u = cv) ∧ PySem.W.kitOne K (.ref C) cv = some b ∧ Q (.bl b) H
theorem call_isP (k : ExK X.K C) (hz : Zc (.ref C) d oe) (hf : ∃ vs, oe.data = .fields vs) : CallR (X.suite a ((a, oe) :: pn)) (.builtin "isinstance") (rIsP X.K C a d) := fun pins s σ H xs us Q I r ⟨z, cv, b, ex, hd, hcv, e, q⟩ => by
  subst ex
  obtain ⟨u1, us1, rfl, r1, r2⟩ : ∃ u1 us1, us = u1 :: us1 ∧ RelV (.ref a) u1 ∧ Vals [z] us1 := by cases r with | cons r1 r2 => exact ⟨_, _, rfl, r1, r2⟩
  obtain ⟨u2, rfl, r3⟩ := vals1 r2
  cases r1
  obtain rfl := hcv _ r3
  obtain ⟨od, J, _⟩ := pin_inst I hz hf hd
  exact PySem.W.kia_one (PySem.W.kitx_exc k.cl k.ga k.gg k.ex k.ca k.cg k.ct k.ob) I.kIn J e (fun y => nomatch y) fun tk => ⟨.bl b, H, I.kept (t' := tk) fun _ _ y => y, rfl, q⟩
theorem cau_d {w : Wd} {H : Hp} {V : V} {ds : List D} (rv : RV g w H (.cau a d c ds) V) : V = .ref a ∧ (d = none ∨ ∃ dd fs, d = some dd ∧ H dd = some (.xd fs)) := by
  cases rv with
  | cau0 _ => exact ⟨rfl, .inl rfl⟩
  | cau _ h _ _ => exact ⟨rfl, .inr ⟨_, _, rfl, h⟩⟩
theorem q_isC (xp : XP g X) {n : Str} {b : Bool} {cv : Value} {v : V} (k : ExK g.K C) (hz : Zc (.ref C) d oe) (hf : ∃ vs, oe.data = .fields vs) (hg : Gl X "isinstance") (hm : g.mg "isinstance" = none) (hn : PE (X.suite a ((a, oe) :: pn)) (.Name n p1) (tC v)) (hv : ∀ u, RelV v u → u = cv)
    (hb : PySem.W.kitOne g.K (.ref C) cv = some b) (he : PE (X.suite a ((a, oe) :: pn)) e (tI g W f)) (hs : starEach [e, .Name n p1] X.env = (false, eval e X.env) :: starEach [.Name n p1] X.env := by rfl) (hs2 : starEach [.Name n p1] X.env = [(false, eval (.Name n p1) X.env)] := by rfl) :
    PE (X.suite a ((a, oe) :: pn)) (.Call (.Name "isinstance" p) [e, .Name n p1] [] pos) (tI g W (xIsC a d c b f)) := by
  have cl := pe_callB (p := p) (pos := pos) (call_isP (pn := pn) (a := a) (by rw [xp.K]; exact k) hz hf) hg (by show X.mg _ = _; rw [xp.mg]; exact hm) (by decide +kernel) (pa_cons he (pa_cons hn pa_nil hs2) hs) (by decide +kernel) (by decide +kernel) hs (by show (backTo _ (starEach _ X.env)).any _ = _; rw [hs2]; rfl)
  refine ⟨fun pins s σ H Q I ⟨w, ρ, h, sr, o⟩ => cl.run pins s σ H Q I (tI_go sr o fun V H1 w1 x h1 l sr1 rv o1 => ?_)⟩
  cases x with
  | cau a' d' c' ds =>
    dsimp only at o1
    split at o1
    · rename_i hh
      obtain ⟨rfl, rfl, rfl⟩ := hh
      obtain ⟨rfl, hd⟩ := cau_d rv
      exact ⟨v, cv, b, rfl, hd, hv, by rw [xp.K]; exact hb, o1 w1 H1 _ (Later.refl w1 H1) sr1.hr (.bl b)⟩
    · exact o1.elim
  | _ => exact o1.elim
theorem q_fldC (xp : XP g X) {n : Str} (k : ExK g.K C) (hno : PySem.W.findIn g.K (.ref C) (fldOf c) = some none) (hz : Zc (.ref C) d oe) (hf : ∃ vs, oe.data = .fields vs) (he : PE (X.suite a ((a, oe) :: pn)) e (tI g W f)) (hb : attributeBase e n X.env (eval e X.env) = eval e X.env := by rfl) :
    PE (X.suite a ((a, oe) :: pn)) (.Attribute e n pos) (tI g W (xFldC a d c n f)) := by
  refine ⟨fun pins s σ H Q I ⟨w, ρ, h, sr, o⟩ => ?_⟩
  have rd : tI g W f σ H (fun V H1 => V = .ref a ∧ fldOf c = n ∧ ∃ (dd : Addr) (fs : List (Str × L2.V)) (v : L2.V), d = some dd ∧ H1 dd = some (.xd fs) ∧ fs.lookup n = some v ∧ Q v H1) := tI_go sr o fun V H1 w1 x h1 l sr1 rv o1 => by
    cases x with
    | cau a' d' c' ds =>
      cases ds with
      | nil => exact o1.elim
      | cons y ds =>
        cases ds with
        | cons _ _ => exact o1.elim
        | nil =>
          dsimp only at o1
          split at o1
          · rename_i hh
            obtain ⟨rfl, rfl, rfl, hn⟩ := hh
            cases rv with
            | @cau _ dd C' _ fs _ hc hx en t =>
              cases fs with
              | nil => simp at en
              | cons q r =>
                cases t with
                | cons rx t =>
                  have hr : r = [] := by
                    have := t.length
                    cases r with
                    | nil => rfl
                    | cons _ _ => simp at this
                  subst hr
                  obtain ⟨n', v⟩ := q
                  simp only [List.map_cons, List.map_nil, List.cons.injEq, and_true] at en
                  exact ⟨rfl, hn, dd, _, v, rfl, hx, by rw [en, hn]; simp [List.lookup], o1 w1 H1 _ (Later.refl w1 H1) sr1.hr rx⟩
          · exact o1.elim
    | _ => exact o1.elim
  refine attr_of hb (thn (he.run pins s σ H _ I rd) fun u s1 hh => ?_)
  obtain ⟨x, H1, I1, rx, ex, hn, dd, fs, v, ed, hx, hl, q⟩ := hh
  subst ex
  obtain rfl : u = Value.ref a := rx
  obtain ⟨od, J, fd⟩ := pin_inst I1 hz hf (.inr ⟨dd, fs, ed, hx⟩)
  obtain ⟨o1, u, rfl, hu, ru⟩ := fd dd fs ed hx n v hl
  have kin : g.K.In s1.heap := by rw [← xp.K]; exact I1.kIn
  rw [hn] at hno
  exact HandSPX.exc_get kin J k.ga k.gg k.ex (PySem.W.findObj_own k.hd hno rfl (by rw [hu])) (handed_of ru) ⟨v, H1, I1.tok _, ru, q⟩
end
def mCnt (a : D) (ds : List D) (h : Hh) : Res D := match ds with
  | [y] => match toD h a, toD h y with
    | some (.list ps), some p => if PyData.plainAll ps && p.plain && decide (p.depth ≤ 100) then .ok (.int ((ps.countP fun z => PyData.eqv z p : Nat) : Int)) h else .bad
    | _, _ => .bad
  | _ => .bad
def mIdx (a : D) (ds : List D) (h : Hh) : Res D := match ds with
  | [.bl true] => match (asL h a).bind blsOf with
    | some bs => match bs.findIdx? id with
      | some j => .ok (.int (j : Nat)) h
      | none => .bad
    | none => .bad
  | _ => .bad
section
variable {g : Gx} {X : Cx} {w : Wd} {H : Hp} {h : Hh}
def rMe (g : Gx) (f : D → List D → Hh → Res D) : V → List V → Hp → VK → Prop := fun x xs H Q => ∃ E, rM g E f x xs H Q
theorem rMe_of {E : XK} {f : D → List D → Hh → Res D} {x : D} {ds : List D} {V : V} {Vs : List L2.V} {Q : VK} (hr : HR g w h H) (rv : RV g w H x V) (rvs : RVs g w H ds Vs) (q : OKg g (RV g) w H E Q (f x ds h)) : rMe g f V Vs H Q := ⟨E, w, h, x, ds, hr, rv, rvs, q⟩
theorem mt_cnt (xp : XP g X) : MtR X "list.count" (rMe g mCnt) := fun pins s σ H x xs v us Q I rx rxs ⟨E, w, h, d, ds, hr, rd, rds, o⟩ => by
  unfold mCnt at o
  split at o
  · rename_i y
    split at o
    · rename_i ps p e1 e2
      split at o
      · rename_i hz
        simp only [Bool.and_eq_true, decide_eq_true_eq] at hz
        obtain ⟨z, rfl, rz⟩ := rvs1 rds
        obtain ⟨u, rfl, ru⟩ := vals1 rxs
        obtain ⟨as, r1⟩ := toD_reads I.hok hr e1 rd rx
        obtain ⟨bs, r2⟩ := toD_reads I.hok hr e2 rz ru
        cases r1 with
        | list h1 h2 h3 h4 =>
          refine SeqAt.count_list_data ⟨_, h1, h2, _, h3⟩ h4 r2 hz.1.1 hz.1.2 ?_ ⟨.int _, H, I.tok _, ⟨_, rfl⟩, o.keep hr (.int _)⟩
          have := xp.un
          have := Nat.min_le_right (PyData.depthAll ps) p.depth
          omega
      · exact o.elim
    · exact o.elim
  · exact o.elim
theorem rvs_bls : ∀ {bs : List Bool} {vs : List V}, RVs g w H (bs.map .bl) vs → vs = bs.map V.bl
  | [], _, .nil => rfl
  | b :: bs, _, .cons r t => by cases r; rw [rvs_bls t]; rfl
theorem mt_idx : MtR X "list.index" (rMe g mIdx) := fun pins s σ H x xs v us Q I rx rxs ⟨E, w, h, d, ds, hr, rd, rds, o⟩ => by
  unfold mIdx at o
  split at o
  · split at o
    · rename_i bs e1
      split at o
      · rename_i j e2
        obtain ⟨z, rfl, rz⟩ := rvs1 rds
        cases rz
        rw [Option.bind_eq_some_iff] at e1
        obtain ⟨es, e3, e4⟩ := e1
        obtain ⟨p, vs, rfl, hp, t⟩ := asL_ok e3 hr rd
        rw [blsOf_eq e4] at t
        have e5 := rvs_bls t
        subst e5
        obtain ⟨k1, k2, k3⟩ := List.findIdx?_eq_some_iff_getElem.mp e2
        refine mt_index pins s σ H _ _ v us Q I rx rxs ⟨p, _, .bl true, j, .bl bs[j], rfl, rfl, .inl (.inl hp), rfl, by simp [flatV], by simp [k1], ?_, fun m z' hm hz' => ?_, o.keep hr (.int _)⟩
        · have k2' : bs[j] = true := k2
          rw [k2']; rfl
        · have k4 := k3 m hm
          rw [List.getElem?_map, Option.map_eq_some_iff] at hz'
          obtain ⟨b, hb, rfl⟩ := hz'
          obtain ⟨hm', hb'⟩ := List.getElem?_eq_some_iff.mp hb
          rw [hb'] at k4
          cases b with
          | true => exact absurd rfl k4
          | false => rfl
      · exact o.elim
    · exact o.elim
  · exact o.elim
end
end Bx
namespace Bx
open PySem PySem.Spec PyProof.Rows L2
section
variable {g : Gx} {w : Wd} {h : Hh} {H H1 : Hp} {ρ : Rho} {σ : L2.St}
/-- all but the tables stays: the world knows the same -/
theorem ext_later (q : HR g w h H) (e : LamX.ExtN H H1) (t : LamX.Tabs g.T H1) : Later w H w H1 ∧ HR g w h H1 := by
  have l : Later w H w H1 := ⟨⟨fun _ z => z, fun a u _ r => e a _ r fun ps z => (by cases z), fun a o u r => e a _ r fun ps z => (by cases z), fun a o k _ r => e a _ r fun ps z => (by subst z; exact k.elim), fun a u r => e a _ r fun ps z => (by cases z), fun a u r => e a _ r fun ps z => (by cases z), ⟨[], by simp⟩⟩, rfl⟩
  refine ⟨l, q.len, q.nd, fun a z => ?_, fun i o a e1 e2 => ?_, fun p hp => ?_, t, fun a ps z y => ?_, q.pm⟩
  · obtain ⟨u, hu⟩ := q.fz a z
    exact ⟨u, e a u hu fun ps y => q.nt a ps z (by rw [hu, y])⟩
  · have r := q.ob i o a e1 e2
    refine r.mono l Iff.rfl ?_
    cases o with
    | lst ds => obtain ⟨_, vs, k, _⟩ := r; exact .inl ((e a _ k fun ps z => (by cases z)).trans k.symm)
    | dct kds => obtain ⟨_, vs, k, _⟩ := r; exact .inl ((e a _ k fun ps z => (by cases z)).trans k.symm)
    | ins c fds => obtain ⟨_, C, dx, fs, k, _⟩ := r; exact .inl ((e a _ k fun ps z => (by cases z)).trans k.symm)
    | gone => exact .inr rfl
  · obtain ⟨e1, e2, e3⟩ := q.pr p hp
    exact ⟨e p.1 _ e1 fun ps z => by have m := q.pm p hp; rw [z] at m; exact m, e2, e3⟩
  · obtain ⟨u, hu⟩ := q.fz a z
    have k := e a u hu fun ps y => q.nt a ps z (by rw [hu, y])
    rw [k] at y
    cases y
    exact q.nt a ps z hu
end
section
variable {g : Gx} {X : Cx} {pins : List (Addr × Obj)} {σ : L2.St} {H : Hp} {s : Shared}
/-- what a lambda's body is run in -/
abbrev lamZ (X : Cx) (Ng : List Str) (qg : Str) (sg : Scope) (g0 : Addr) (cdg : Value) (s : Shared) (H : Hp) (E : XK) : Cx := cxOf (L2.CX X.prog X.w) X.prog X.w X.K X.mg X.base Ng qg sg g0 cdg X.A X.stack s H E
/-- the lambda that was made at s is called later, in the def that got it -/
theorem lam_called {Ng : List Str} {qg : Str} {sg : Scope} {g0 f c' : Addr} {cdg pm ctv : Value} {params : Arguments} {body : Expr} {scope : Scope} {pn : List (Addr × Obj)} {xe : Value → Shared → Prop} {Eg E : XK} {tb : TE} {Q : VK} {pinsZ : List (Addr × Obj)} {σZ : L2.St} {HZ : Hp} {sZ : Shared}
    (I : Inv X pins σ H s) (L : LamX.LamS X.env.scope scope) (nf : H f = none) (fr : f ∉ frs X.stack)
    (of : s.heap.get? f = some (PySem.W.kla_obj "<lambda>" (X.env.qual ++ "<lambda>") params body scope (cloFrom X.env.cells scope.names []) pm c' ctv))
    (bd : bindArgs (PySem.W.kla_fn "<lambda>" (X.env.qual ++ "<lambda>") params body scope (cloFrom X.env.cells scope.names []) pm (.ref c') ctv) ⟨[], []⟩ = pure [])
    (dp : (X.A.deeper (envOfC qg sg s.heap.objs.size g0 cdg)).depth < recursionLimit) (hh : (X.A.deeper (envOfC qg sg s.heap.objs.size g0 cdg)).handled = none)
    (IZ : Inv ((lamZ X Ng qg sg g0 cdg s H Eg).tr pn xe) pinsZ σZ HZ sZ) (hc : HZ c' = some (LamX.CodeO c' (X.env.qual ++ "<lambda>")))
    (hb : PE (LamX.lamCx X (X.A.deeper (envOfC qg sg s.heap.objs.size g0 cdg)) (envOfC qg sg s.heap.objs.size g0 cdg :: X.stack) sZ HZ E scope f c') body tb) (ht : tb σ HZ Q) :
    codeAny (model X.prog X.w) (X.A.deeper (envOfC qg sg s.heap.objs.size g0 cdg)) (.call (.ref f) ⟨[], []⟩) (CR (L2.CX X.prog X.w) (envOfC qg sg s.heap.objs.size g0 cdg :: X.stack) X.prog X.w HZ sZ Q E) sZ := by
  have here := IZ.base.keep f _ of nf fr fun z => absurd (show f ∈ ([] : List Addr) from z) (by simp)
  obtain ⟨⟨oc, vs, t, k1, k2, k3⟩, _⟩ := IZ.hok c' _ hc
  refine PySem.W.kla_callFunE dp here rfl L.co L.gen rfl ⟨c', oc, vs, t, rfl, k1, k2, k3⟩ ?_
  rw [bd]
  refine wpAny_pure (wpAny_newFunctionEnv (fun y hy => (L.own y hy).2) (fun y hy => absurd hy (by simp)) (fun h2 hns sb => ⟨IZ.nolimit.fresh _ sb, ?_⟩) L.kind)
  have stay : ∀ b o, sZ.heap.get? b = some o → h2.get? b = some o := fun b o e => sb.extBut b o (Nat.ne_of_lt (Heap.lt_size e)) (Heap.get?_push_of_some _ e)
  have J := LamX.lam_start2 (E := E) (f := f) (c' := c') (tk := sZ.toks + ([] : List (Str × Value)).length) I L IZ.env0 hh IZ.base hns stay
  have run := hb.run [] _ σ HZ Q J ht
  refine PySem.W.kla_codeExpr (wpAny_mono run (fun v s' ⟨x, H', J', rx, q⟩ => ?_) fun e s' q => q)
  exact ⟨x, H', J'.os, J'.bare, J'.base, J'.hok, rx, q⟩
end
/-- x(lambda: body): what x makes of the lambda's answer -/
def xHand (fb : Fn) (rs : Res D → Res D) : Fn := fun ρ h => rs (fb ρ h)
/-- told, or the suite's answer -/
def rsOf (ns : List Str) (sv : Str → List D → Hh → Res D) (r : Res D) : Res D := match r with
  | .ok d h => .ok (.tup [.str "told", d]) h
  | .exc c ds h => if ns.contains c && decide (c ≠ "WayError") then sv c ds h else .bad
  | .bad => .bad
/-- a suite's end, the statement behind the try -/
def suEnd (i : Nat) (zl : Fs) (r : SRes) : Res D := match r with
  | .rt d h => .ok d h
  | .nx ρ h => endB (zl (ρ.set i none) h)
  | _ => .bad
def suR (n i : Nat) (x : D) : Rho := (List.replicate n none).set i (some x)
section
variable {P : Program} {g : Gx} {W : WX} {X : Cx} {ns : List Str}
theorem start_len {Ng : List Str} {v : V} {i : Nat} (h : i < Ng.length) : (start Ng [v]).length = Ng.length := by
  unfold L2.start
  rw [List.length_append, List.length_map, List.length_replicate, List.length_singleton]
  omega
theorem way_catch {c : Str} {C CW : Addr} (Z : ErN g ns) (hc : c ∈ ns) (hm : g.mg c = some (.ref C)) (hw : ("WayError" : Str) ∈ ns) (hmw : g.mg "WayError" = some (.ref CW)) (ne : c ≠ "WayError") : PySem.W.exmOne g.K (.ref C) (.ref CW) = some true := by
  obtain ⟨as, rfl, Z⟩ := Z
  obtain ⟨m1, k1, _, _, e1⟩ := Z.at hc hm
  obtain ⟨m2, k2, _, _, e2⟩ := Z.at hw hmw
  have h1 := e1 _ m2
  have h2 := e2 _ m1
  have n : C ≠ CW := fun z => by
    subst z
    have h3 : PySem.W.kitOne g.K (.ref C) (.ref C) = some true := by unfold PySem.W.kitOne; rw [if_pos (by simp)]
    rw [h3] at h2
    have h4 := (Option.some.inj h2).symm
    unfold subT at h4
    rw [Bool.or_eq_true, decide_eq_true_eq, decide_eq_true_eq] at h4
    rcases h4 with h4 | h4
    · exact ne h4.symm
    · exact ne h4
  have h5 : subT c "WayError" = true := by simp [subT]
  rw [h5] at h1
  unfold PySem.W.kitOne at h1
  rw [if_neg (by simpa using n)] at h1
  unfold PySem.W.exmOne
  rw [if_pos (by rw [k2.ex]; rfl)]
  exact h1
theorem q_hand {st : Stmt} {x a en : Str} {g0 c0 P0 CW : Addr} {fdat : FuncData} {Ng : List Str} {k i : Nat} {params : Arguments} {body : Expr} {scope : Scope} {b₀ lastSt : Stmt} {suite : List Stmt} {j1 k0 : Nat} {p lpos pos p1 p2 p3 p4 p5 p6 p7 p8 : Pos} {fb : Fn} {su : Addr → Option Addr → Str → Fs} {zl : Fs} {sv : Str → List D → Hh → Res D}
    (xo : XO g X) (tk : Takes X W) (rm : RmH k X.A) (hg : Gl X x) (F : Fun g.K x x st g0 fdat) (hmx : g.mg x = some (.ref g0)) (S : FnScope Ng [a] (defScope st)) (hN0 : Ng[0]? = some a) (hva : Vis (defScope st) a) (hbd : Binds g.K fdat [a] [])
    (hbody : defBody st = [.Try [.Return (some (.Tuple [.Constant (.str "told") j1 p1, .Call (.Name a p2) [] [] p3] k0 p4)) p5] [.ExceptHandler (some (.Name "WayError" p6)) (some en) (b₀ :: suite) p7] [] [] p8, lastSt])
    (hi : Ng[i]? = some en) (hi0 : i ≠ 0) (hln : (defScope st).names.lookup en = some .local) (hgw : (defScope st).names.lookup ("WayError" : Str) = some .globalImplicit) (hmw : g.mg "WayError" = some (.ref CW)) (Z : ErN g ns) (hw : ("WayError" : Str) ∈ ns)
    (hsu : ∀ (cdv : Value) (s : Shared) (H : Hp) (E : XK) (av : Addr) (oe : Obj) (C : Addr) (d : Option Addr) (pn : List (Addr × Obj)) (c : Str), Zc (.ref C) d oe → (∃ vs, oe.data = .fields vs) → g.mg c = some (.ref C) → c ∈ ns → XP g (lamZ X Ng x (defScope st) g0 cdv s H E) →
      PSs ((lamZ X Ng x (defScope st) g0 cdv s H E).suite av ((av, oe) :: pn)) (b₀ :: suite) (tS g EF (su av d c)))
    (hlast : ∀ (cdv : Value) (s : Shared) (H : Hp) (E : XK), PS (lamZ X Ng x (defScope st) g0 cdv s H E) lastSt (tS g (fun c d _ H => E c d H) zl))
    (hsv : ∀ av d c ds h, c ∈ ns → suEnd i zl (su av d c (suR Ng.length i (.cau av d c ds)) h) = sv c ds h)
    (L : LamX.LamS X.env.scope scope) (hdef : defaultsOf params X.env = ([], []))
    (hbind : ∀ (q : Str) (cl : List (Str × Addr)) (pm cv ctv : Value), bindArgs (PySem.W.kla_fn "<lambda>" q params body scope cl pm cv ctv) ⟨[], []⟩ = pure [])
    (hlam : ∀ (A : Around) (outer : List Env) (s : Shared) (H : Hp) (E : XK) (f c' : Addr), RmG k (A.deeper (LamX.lamEnv X scope s.heap.objs.size f c')) → PE (LamX.lamCx X A outer s H E scope f c') body (tI g (fun c d _ H => E c d H) fb))
    (TB : LamX.TabB X.base X.mg c0 P0) (hcode : X.env.code = .ref c0) (hmT : (P0, X.env.qual ++ "<lambda>") ∈ g.T) (hu : ∀ p ∈ g.T, p.1 = P0 → p.2 = X.env.qual ++ "<lambda>")
    (hdb : (x == ("__debug__" : Str)) = false := by decide) (hd : (a == ("__debug__" : Str)) = false := by decide) (hcd : (a == ("__classdict__" : Str)) = false := by decide) :
    PE X (.Call (.Name x p) [.Lambda params body scope lpos] [] pos) (tI g W (xHand fb (rsOf ns sv))) := by
  have hk := F.kp
  obtain ⟨oc, od, kV, doc, pm, an, cdv, ct, osl, rfl, lk, hcg⟩ := F.ex
  rw [← xo.K] at hk lk hcg
  have hmx' : X.mg x = some (.ref g0) := by rw [xo.mg]; exact hmx
  rw [hbody] at lk hbd
  refine ⟨fun pins s σ H Q I ⟨w, ρ, h, sr, o⟩ => ?_⟩
  refine wpAny_Call_Name_kw (ld_glob I hg hmx' ?_ hdb)
  refine PySem.W.callWith_K (h₀ := X.base) I.ok.mod.kin hk ?_ (by rfl) (by rfl)
  show wpAny _ _ (spliced ((false, eval (.Lambda params body scope lpos) X.env) :: backTo pos (starEach [] X.env))) _ _ s
  refine Calls.spliced_cons (LamX.lam_make2 I TB hcode hmT hu sr.hr.tb hdef (L.has I.ok) fun f c' pm' ctv H1 s1 I1 eN T1 of nf fr hco => ?_)
  refine Calls.spliced_nil ⟨I1.kIn, ?_⟩
  obtain ⟨l1, hr1⟩ := ext_later sr.hr eN T1
  have sr1 := sr.step l1 hr1
  have o1 : OKg g (RV g) w H1 (wAt W σ) Q (rsOf ns sv (fb ρ h)) := OKg.mono l1 o
  have rc : codeAny (model X.prog X.w) X.A (.call (.ref g0) ⟨[.ref f], []⟩) (CR (L2.CX X.prog X.w) X.stack X.prog X.w H1 s1 Q (wAt W σ)) s1 := by
    refine LamX.run_ofS (k := 3 * k + 5) (N := Ng) (ps := [a]) (us := [.ref f]) (vs := [.ref f]) lk hcg S rm.more I1.env0 (hbd s1 [.ref f] (by rw [← xo.K]; exact I1.kIn) rfl) (.cons rfl .nil) rfl fun hr' => ?_
    have rmZ : RmG k (X.A.deeper (envOfC x (defScope st) s1.heap.objs.size g0 cdv)) := ⟨hr'.mono (by omega), rm.gd⟩
    have xpZ : XP g (lamZ X Ng x (defScope st) g0 cdv s1 H1 (wAt W σ)) := ⟨xo.K, xo.mg, S.nd, by have z := rmZ.rm.un; show (X.A.deeper _).units + 200 < cLine; omega, rmZ.gd⟩
    have hWay : Names (lamZ X Ng x (defScope st) g0 cdv s1 H1 (wAt W σ)) "WayError" (.ref CW) := ⟨hgw, by decide, .inl (by show X.mg _ = _; rw [xo.mg]; exact hmw)⟩
    have tkZ : Takes (lamZ X Ng x (defScope st) g0 cdv s1 H1 (wAt W σ)) (fun c d _ H => wAt W σ c d H) := takes_of rfl rfl rfl rfl
    have act : ∀ (W' : WX) (pn : List (Addr × Obj)) (xe : Value → Shared → Prop), Takes ((lamZ X Ng x (defScope st) g0 cdv s1 H1 (wAt W σ)).tr pn xe) W' →
        PE ((lamZ X Ng x (defScope st) g0 cdv s1 H1 (wAt W σ)).tr pn xe) (.Call (.Name a p2) [] [] p3) (fun σZ HZ Q' => σZ[0]? = some (some (V.ref f)) ∧ HZ c' = some (LamX.CodeO c' (X.env.qual ++ "<lambda>")) ∧ tI g (fun c d _ H => W' c d σZ H) fb σ HZ Q') := by
      intro W' pn xe tk'
      refine ⟨fun pinsZ sZ σZ HZ Q' IZ ⟨z1, z2, z3⟩ => ?_⟩
      refine wpAny_Call_Name_kw (thn ((pe_var (pos := p2) (i := 0) hN0 hva hd hcd).run pinsZ sZ σZ HZ (fun v H2 => v = .ref f ∧ H2 = HZ) IZ ⟨.ref f, z1, rfl, rfl⟩) fun u s2 ⟨v, H2, I2, r2, ev, eH⟩ => ?_)
      subst ev eH
      obtain rfl : u = Value.ref f := r2
      have of2 := I2.base.keep f _ of nf fr fun z => absurd (show f ∈ ([] : List Addr) from z) (by simp)
      refine PySem.W.callWith_F0 ⟨_, _, _, _, of2⟩ ?_
      have rl := lam_called (E := fun c d H => W' c d σZ H) I1 L nf fr of (hbind _ _ _ _ _) rmZ.rm.depth rmZ.rm.hd I2 z2 (hlam _ _ s2 H2 _ f c' ⟨Room.deeper (k := 3 * k + 4) hr' _, rmZ.gd⟩) z3
      refine wpAny_call (codeAny_mono rl fun r s3 hq => ?_)
      cases r with
      | error e => exact tk' e s3 (XE.of_call I2 (fun _ _ _ z => z) hq)
      | ok fl =>
        cases fl with
        | ret u => exact I2.after hq
        | next => exact hq.elim
        | brk => exact hq.elim
        | cont => exact hq.elim
    have tr := ps_try_as (X := lamZ X Ng x (defScope st) g0 cdv s1 H1 (wAt W σ)) (x := "WayError") (np := p6) (pos := p8) (pos' := p7) (n := en) (c := .ref CW) (i := i) (body := [.Return (some (.Tuple [.Constant (.str "told") j1 p1, .Call (.Name a p2) [] [] p3] k0 p4)) p5]) (b₀ := b₀) (suite := suite)
      (tb := fun W' D σZ HZ => σZ[0]? = some (some (V.ref f)) ∧ HZ c' = some (LamX.CodeO c' (X.env.qual ++ "<lambda>")) ∧ tI g (fun c d _ H => W' c d σZ H) fb σ HZ fun v H2 => 2 ≤ sizeLine ∧ ∀ q, H2 q = none → D.rt (.ref q) (upd H2 q (.tup [.str "told", v])))
      (ts := fun av cls d D σZ HZ => ∃ c C, cls = .ref C ∧ g.mg c = some (.ref C) ∧ c ∈ ns ∧ tS g EF (su av d c) D σZ HZ)
      rfl rfl S.nd hi hln hWay tkZ
      (fun W' pn xe tk' _ => ⟨fun pinsZ sZ σZ HZ D IZ hz => (pss_one (ps_ret (pe_tup (pa_cons pe_str (pa_cons (act W' pn xe tk') pa_nil))))).run pinsZ sZ σZ HZ D IZ hz⟩)
      (fun av oe cls d pn hz hf => ⟨fun pinsZ sZ σZ HZ D IZ ⟨c, C, e1, e2, e3, e4⟩ => by subst e1; exact (hsu cdv s1 H1 (wAt W σ) av oe C d pn c hz hf e2 e3 xpZ).run pinsZ sZ σZ HZ D IZ e4⟩)
    refine ⟨_, pss_cons tr (pss_one (hlast cdv s1 H1 (wAt W σ))), ?_⟩
    refine ⟨rfl, hco, w, ρ, h, sr1, ?_⟩
    cases q : fb ρ h with
    | bad => rw [q] at o1; exact o1.elim
    | ok d h2 =>
      rw [q] at o1
      intro w2 H2 v l2 hr2 rv
      exact ⟨by decide, fun q hq => OKg.tup (OKg.mono l2 o1) hr2 (.cons (.str _) (.one rv)) q hq⟩
    | exc c ds h2 =>
      rw [q] at o1
      unfold rsOf at o1
      dsimp only at o1
      split at o1
      · rename_i hz
        simp only [Bool.and_eq_true, decide_eq_true_eq, List.contains_iff_mem] at hz
        intro w2 H2 C d l2 hr2 xr
        have o2 := OKg.mono l2 o1
        refine ⟨true, by show PySem.W.exmOne X.K _ _ = _; rw [xo.K]; exact way_catch Z hz.1 xr.1 hw hmw hz.2, fun _ av hav => ⟨c, C, rfl, xr.1, hz.1, w2, suR Ng.length i (.cau av d c ds), h2, ⟨hr2, fun j y hj => ?_, ?_⟩, ?_⟩, fun z => by cases z⟩
        · have hl : i < Ng.length := (List.getElem?_eq_some_iff.mp hi).1
          by_cases e : i = j
          · subst e
            unfold suR at hj
            rw [List.getElem?_set_self (by rw [List.length_replicate]; exact hl)] at hj
            cases hj
            refine ⟨.ref av, List.getElem?_set_self (by rw [start_len hl]; exact hl), ?_⟩
            obtain ⟨m, k | ⟨dd, fs, k1, k2, k3, k4⟩⟩ := xr
            · obtain ⟨rfl, rfl⟩ := k
              exact .cau0 m
            · subst k1
              exact .cau m k2 k3 k4
          · unfold suR at hj
            rw [List.getElem?_set_ne e, List.getElem?_replicate] at hj
            split at hj <;> cases hj
        · have hl : i < Ng.length := (List.getElem?_eq_some_iff.mp hi).1
          unfold suR
          rw [List.length_set, List.length_set, List.length_replicate, start_len hl]
        · rw [← hsv av d c ds h2 hz.1] at o2
          generalize su av d c (suR Ng.length i (.cau av d c ds)) h2 = r at o2 ⊢
          cases r with
          | bk ρ3 h3 => exact o2.elim
          | ct ρ3 h3 => exact o2.elim
          | exc c3 d3 ρ3 h3 => exact o2.elim
          | bad => exact o2.elim
          | rt y h3 => exact o2
          | nx ρ3 h3 =>
            intro w4 H4 σ4 l4 sr4
            have o4 : OKg g (RV g) w4 H4 (wAt W σ) Q (endB (zl (ρ3.set i none) h3)) := OKg.mono l4 o2
            refine ⟨w4, ρ3.set i none, h3, sr4.wipe i, ?_⟩
            generalize zl (ρ3.set i none) h3 = r4 at o4 ⊢
            cases r4 with
            | rt y h5 => exact o4
            | nx ρ5 h5 => exact fun w' H' σ' l sr => o4 w' H' .non l sr.hr .non
            | bk ρ5 h5 => exact o4.elim
            | ct ρ5 h5 => exact o4.elim
            | exc c5 d5 ρ5 h5 => exact fun w' H' σ' C5 dd l sr x5 => o4 w' H' C5 dd l sr.hr x5
            | bad => exact o4.elim
      · exact o1.elim
  refine wpAny_call (codeAny_mono rc fun r s2 hq => ?_)
  cases r with
  | error e => exact tk e s2 (XE.of_call I1 (fun _ _ _ z => z) hq)
  | ok fl =>
    cases fl with
    | ret u => exact I1.after hq
    | next => exact hq.elim
    | brk => exact hq.elim
    | cont => exact hq.elim
end
end Bx
namespace Bx
open PySem PySem.Spec PyProof.Rows L2
/-- x not in a written dict -/
def xNinW (wd : List (Str × D)) (a : Fn) : Fn := fun ρ h => (a ρ h).bind fun x h1 => match x with | .str z => .ok (.bl (!(wd.lookup z).isSome)) h1 | _ => .bad
/-- a == () -/
def eq0D (a b : D) (h : Hh) : Res D := match a, b with
  | .tup xs, .tup [] => .ok (.bl xs.isEmpty) h
  | _, _ => .bad
/-- d[k] = v by number -/
def setKy (o i v : D) (h : Hh) : Option Hh := match o with
  | .ref n => match h[n]?, toK i with
    | some (.dct kds), some k => if decide (kds.length < sizeLine) then some (h.set n (.dct (dput kds k v))) else none
    | _, _ => none
  | _ => none
def zSetKy (o i v : Fn) : Fs := fun ρ h => SRes.of ρ (v ρ h) fun v h1 => SRes.of ρ (o ρ h1) fun o h2 => SRes.of ρ (i ρ h2) fun i h3 => match setKy o i v h3 with | some h4 => .nx ρ h4 | none => .bad
/-- d.get(k, z) -/
def xGet2 (o k z : Fn) : Fn := fun ρ h => (o ρ h).bind fun d h1 => match asD h1 d with
  | some _ => (k ρ h1).bind fun y h2 => (z ρ h2).bind fun z h3 => match asD h3 d, toK y with
    | some kds, some ky => .ok ((dfind kds ky).getD z) h3
    | _, _ => .bad
  | none => .bad
/-- a dict by number is frozen for good -/
def xGoD (f : Fn) : Fn := fun ρ h => (f ρ h).bind fun d h1 => match d with
  | .ref n => match h1[n]? with
    | some (.dct kds) => .ok (.dct kds) (h1.set n .gone)
    | _ => .bad
  | _ => .bad
def strKeys : List (Key × D) → Option (List Str)
  | [] => some []
  | (.inr x, _) :: r => (strKeys r).map (x :: ·)
  | _ => none
def sle (a b : Str) : Bool := decide (a.cps.toList ≤ b.cps.toList)
def xSrtD (f : Fn) : Fn := fun ρ h => (f ρ h).bind fun d h1 => match (asD h1 d).bind strKeys with
  | some ks => if decide (ks.length < 64) then .ok (.lst ((ks.mergeSort sle).map .str)) h1 else .bad
  | none => .bad
theorem sle_trans (a b c : Str) (h1 : sle a b = true) (h2 : sle b c = true) : sle a c = true := by
  simp only [sle, decide_eq_true_eq] at *
  exact List.le_trans h1 h2
theorem sle_total (a b : Str) : (sle a b || sle b a) = true := by
  simp only [sle, Bool.or_eq_true, decide_eq_true_eq]
  exact List.le_total _ _
theorem sle_anti {a b : Str} (h1 : sle a b = true) (h2 : sle b a = true) : a = b := by
  simp only [sle, decide_eq_true_eq] at *
  exact str_ext (List.le_antisymm h1 h2)
theorem rising_le {x p : Str} (h : (!ltCps x.cps.toList p.cps.toList) = true) : sle p x = true := by
  rw [ltCps_eq, PySem.W.not_lt_str] at h
  exact h
theorem sorted_pair : ∀ {ys : List Str} {p : Str}, risingS p ys = true → (p :: ys).Pairwise (fun a b => sle a b = true)
  | [], p, _ => by simp
  | x :: ys, p, h => by
    simp only [risingS, Bool.and_eq_true] at h
    have ih := sorted_pair h.2
    refine List.pairwise_cons.mpr ⟨fun z hz => ?_, ih⟩
    rcases List.mem_cons.mp hz with rfl | hz
    · exact rising_le h.1
    · exact sle_trans _ _ _ (rising_le h.1) ((List.pairwise_cons.mp ih).1 z hz)
theorem sorted_eq {ys ks : List Str} (hp : ys.Perm ks) (hs : sortedS ys = true) : ys = ks.mergeSort sle := by
  have pw : ys.Pairwise (fun a b => sle a b = true) := by
    cases ys with
    | nil => exact .nil
    | cons p ys => exact sorted_pair hs
  exact List.Perm.eq_of_pairwise (le := fun a b => sle a b = true) (fun a b _ _ h1 h2 => sle_anti h1 h2) pw (List.pairwise_mergeSort sle_trans sle_total ks) (hp.trans (List.mergeSort_perm ks sle).symm)
theorem strKeys_ok : ∀ {kds : List (Key × D)} {ks : List Str}, strKeys kds = some ks → kds.map (·.1) = ks.map Sum.inr
  | [], ks, e => by simp [strKeys] at e; subst e; rfl
  | (k, d) :: r, ks, e => by
    cases k with
    | inl i => simp [strKeys] at e
    | inr x =>
      simp only [strKeys, Option.map_eq_some_iff] at e
      obtain ⟨l, e1, rfl⟩ := e
      simp [strKeys_ok e1]
section
variable {g : Gx} {W : WX} {E : XK} {X : Cx} {a b c o e : Expr} {fa fb fc f : Fn} {pos p p2 apos cpos : Pos} {wd : List (Str × D)} {x : Str} {wo : World} {w : Wd} {H : Hp} {h : Hh}
theorem q_ninW (xo : XO g X) (hw : X.w = wo) (k : KW g wo x wd) (hg : Gl X x) (ha : PE X a (tI g W fa)) (hd : (x == ("__debug__" : Str)) = false := by decide +kernel) : PE X (.Compare a [.NotIn] [.Name x p] pos) (tI g W (xNinW wd fa)) := by
  obtain ⟨d, es, n, hm, kd, kn⟩ := k.ex
  subst hw
  rw [← xo.mg] at hm
  rw [← xo.K] at kd kn
  refine ⟨fun pins s σ H Q I ⟨w, ρ, h, sr, q⟩ => (pe_cmpR (op_notIn_kd kd) ha (pe_glob (v := .ref d) hg hm rfl hd) rfl).run pins s σ H Q I (tI_go sr q fun V H1 w1 x h1 l sr1 rv o1 => ?_)⟩
  split at o1
  · rename_i z
    cases rv
    rcases kn z with ⟨e1, e2⟩ | ⟨dd, u, v, e1, e2, e3, e4⟩
    · rw [e1] at o1
      exact ⟨z, none, rfl, rfl, e2, o1.keep sr1.hr (.bl _)⟩
    · rw [e1] at o1
      exact ⟨z, some u, rfl, rfl, e2, o1.keep sr1.hr (.bl _)⟩
  · exact o1.elim
theorem eq0_ok (xo : XP g X) : OpR X (compareOp .Eq) (rD g E eq0D) := by
  intro pins s σ H x y v u Q I rx ry ⟨w, h, a, b, hr, ra, rb, o⟩
  unfold eq0D at o
  split at o
  · rename_i xs
    obtain ⟨q1, vs, rfl, hp, t⟩ := rv_tup ra
    obtain ⟨q2, us, rfl, hq, t2⟩ := rv_tup rb
    cases t2
    cases rx
    cases ry
    obtain ⟨z, its, rv, o1, h2, h3, n, h4⟩ := I.hok _ _ hp
    obtain ⟨z', its', rv', o2, k2, k3, n', k4⟩ := I.hok _ _ hq
    cases rv'
    have e1 := t.length
    have e2 := rv.length
    refine PySem.W.eq_tuplesT (n := 0) (vs := its.toArray) (vs' := #[]) (e := fun _ => true) ⟨_, h2, h3, _, h4⟩ ⟨_, k2, k3, _, k4⟩ (fun j i1 i2 => by simp at i2) (by have := xo.un; omega) ?_
    have e3 : ((List.range (min its.toArray.size (#[] : Array Value).size)).all (fun _ => true) && its.toArray.size == (#[] : Array Value).size) = xs.isEmpty := by
      cases xs with
      | nil =>
        have : its.length = 0 := by simp at e1; omega
        cases its with
        | nil => rfl
        | cons _ _ => simp at this
      | cons y ys =>
        have : its.length ≠ 0 := by simp at e1; omega
        cases its with
        | nil => simp at this
        | cons _ _ => simp
    rw [e3]
    exact fin_b I hr o
  · exact o.elim
def tSetK (g : Gx) : TSet := fun o i v H Q => ∃ w h a b c h', HR g w h H ∧ RV g w H a o ∧ RV g w H b i ∧ RV g w H c v ∧ setKy a b c h = some h' ∧ ∀ w' H', Later w H w' H' → HR g w' h' H' → Q H'
theorem setk_ok (xo : XP g X) : PSet X (tSetK g) := by
  intro pins s σ H o i v ov iv u Q I r1 r2 r3 ⟨w, h, a, b, c, h', hr, ra, rb, rc, e, q⟩
  unfold setKy at e
  split at e
  · rename_i n
    split at e
    · rename_i kds k e1 e2
      split at e
      · rename_i hz
        cases e
        cases ra with
        | @ref _ p hp =>
          obtain ⟨nF, kvs, e3, ek, t⟩ := hr.ob n _ p e1 hp
          have mu : Mu (H p) := by rw [e3]; trivial
          have ei := toK_ok e2 rb
          subst ei
          have lk : kvs.length = kds.length := by have := congrArg List.length ek; simpa using this
          refine set_dict (by have := xo.un; omega) pins s σ H _ _ _ ov iv u Q I r1 r2 r3 ⟨p, _, rfl, DPut.k e3 (by rw [lk]; exact of_decide_eq_true hz), ?_⟩
          obtain ⟨d1, d2⟩ := dput_ok (k := k) ek t rc
          have l := later_put (o' := .dct (dput kds k c)) (ho := .dK (putK kvs k v)) hr e1 hp nF mu
          exact q w _ l (hr_put hr e1 hp nF mu ⟨nF, _, upd_same, d1, d2.mono l⟩)
      · cases e
    · cases e
  · cases e
theorem w_setky (xo : XP g X) (hv : PE X c (tI g W fc)) (ho : PE X a (tI g W fa)) (hi : PE X b (tI g W fb)) (ha : ∀ v, assign (.Subscript a b p2) X.env v = (do
      let ov ← holding [v] (eval a X.env)
      let iv ← holding [v, ov] (eval b X.env)
      standAt p2
      holding [v, ov, iv] (setItem ov iv v)
      release [v, ov, iv] []) := by intro _; rfl)
    (hs : swapsWithSole [.Subscript a b p2] c pos.line X.env = pure false := by rfl) (hw : swappedStores [.Subscript a b p2] c X.env = pure none := by rfl) (h1 : (assignEach [.Subscript a b p2] X.env).map (·.2) = [assign (.Subscript a b p2) X.env] := by rfl) :
    PS X (.Assign [.Subscript a b p2] c pos) (tS g W (zSetKy fa fb fc)) :=
  ⟨fun pins s σ H D I ⟨w, ρ, h, sr, o⟩ => (ps_asg hv (pg_sub ho hi (setk_ok xo) ha) hs hw h1).run pins s σ H D I (sI_go sr o fun V H1 w1 d1 h1 l1 sr1 rv1 o1 => sI_go sr1 o1 fun V2 H2 w2 d2 h2 l2 sr2 rv2 o2 => sI_go sr2 o2 fun V3 H3 w3 d3 h3 l3 sr3 rv3 o3 => by
    split at o3
    · rename_i e
      exact ⟨w3, h3, d2, d3, d1, _, sr3.hr, rv2.mono l3, rv3, (rv1.mono l2).mono l3, e, fun w' H' l hr => o3 w' H' σ l (sr3.step l hr)⟩
    · exact o3.elim)⟩
theorem q_get2 (xo : XP g X) (ho : PE X o (tI g W fa)) (he : PE X a (tI g W fb)) (hz : PE X b (tI g W fc)) (m : M2 X o "get" apos a b cpos) : PE X (.Call (.Attribute o "get" apos) [a, b] [] cpos) (tI g W (xGet2 fa fb fc)) :=
  ⟨fun pins s σ H Q I ⟨w, ρ, h, sr, q⟩ => (pe_dget2 (by have := xo.un; omega) ho he hz m).run pins s σ H Q I (tI_go sr q fun V H1 w1 d h1 l sr1 rv o1 => by
    split at o1
    · rename_i e1
      obtain ⟨p, kvs, rfl, hp, ek, t⟩ := asD_ok e1 sr1.hr rv
      refine ⟨p, rfl, .inl ⟨kvs, hp⟩, tI_go sr1 o1 fun V2 H2 w2 y h2 l2 sr2 rv2 o2 => tI_go sr2 o2 fun V3 H3 w3 z h3 l3 sr3 rv3 o3 => ?_⟩
      split at o3
      · rename_i kds ky e2 e3
        obtain ⟨p', kvs', ep, hp', ek', t'⟩ := asD_ok e2 sr3.hr ((rv.mono l2).mono l3)
        cases ep
        have ex := toK_ok e3 (rv2.mono l3)
        subst ex
        refine ⟨valV kvs' ky, .inl ⟨kvs', ky, hp', rfl, rfl⟩, ?_⟩
        rcases dfind_ok (k := ky) ek' t' with ⟨z1, z2⟩ | ⟨d2, v2, z1, z2, rv4⟩
        · rw [z1] at o3
          rw [z2]
          exact OKg.keep o3 sr3.hr rv3
        · rw [z1] at o3
          rw [z2]
          exact OKg.keep o3 sr3.hr rv4
      · exact o3.elim
    · exact o1.elim)⟩
theorem hr_goneD {n : Nat} {p : Addr} {kds : List (Key × D)} {ob : Obj} {kvs : List (Key × V)} (q : HR g w h H) (hn : h[n]? = some (.dct kds)) (ha : w.m[n]? = some p) (he : H p = some (.dK kvs)) (nF : ¬ w.F p) :
    Later w H (w.frz p) (upd H p (.frz ob (.dK kvs))) ∧ HR g (w.frz p) (h.set n .gone) (upd H p (.frz ob (.dK kvs))) := by
  have mu : Mu (H p) := by rw [he]; trivial
  have l1 := later_put (o' := .gone) (ho := .frz ob (.dK kvs)) q hn ha nF mu
  have l : Later w H (w.frz p) (upd H p (.frz ob (.dK kvs))) := ⟨⟨fun a z => .inr z, l1.lst, l1.sf, l1.ins, l1.tup, l1.xd, ⟨[], by simp [Wd.frz]⟩⟩, rfl⟩
  refine ⟨l, by rw [List.length_set]; exact q.len, q.nd, fun b z => ?_, fun i o1 b e1 e2 => ?_, fun x hx => ?_, tabs_upd q.tb (.inr mu), fun b ps z => ?_, q.pm⟩
  · by_cases e : b = p
    · subst e; exact ⟨_, upd_same⟩
    · obtain ⟨u, hu⟩ := q.fz b (z.resolve_left e)
      exact ⟨u, by rw [upd_ne e]; exact hu⟩
  · by_cases hi : n = i
    · subst hi
      rw [List.getElem?_set_self (List.getElem?_eq_some_iff.mp hn).1] at e1
      have e2' : w.m[n]? = some b := e2
      rw [ha] at e2'
      cases e1
      cases e2'
      exact .inl rfl
    · rw [List.getElem?_set_ne hi] at e1
      have hne : b ≠ p := fun z => by
        subst z
        obtain ⟨h1, e1'⟩ := List.getElem?_eq_some_iff.mp ha
        obtain ⟨h2, e2'⟩ := List.getElem?_eq_some_iff.mp (show w.m[i]? = some b from e2)
        exact hi ((List.getElem_inj q.nd).mp (e1'.trans e2'.symm))
      exact (q.ob i o1 b e1 e2).mono l ⟨fun z => z.resolve_left hne, .inr⟩ (.inl (upd_ne hne))
  · obtain ⟨e1, e2, e3⟩ := q.pr x hx
    have hne : x.1 ≠ p := fun y => e3 (y ▸ List.mem_of_getElem? ha)
    exact ⟨by rw [upd_ne hne]; exact e1, fun z => z.elim hne e2, e3⟩
  · by_cases e : b = p
    · subst e; rw [upd_same]; intro y; cases y
    · rw [upd_ne e]; exact q.nt b ps (z.resolve_left e)
theorem q_goD (he : PE X e (tI g W f)) : PE X e (tI g W (xGoD f)) := ⟨fun pins s σ H Q I ⟨w, ρ, h, sr, o⟩ => (pe_lockN he).run pins s σ H Q I (tI_go sr o fun V H1 w1 d h1 l sr1 rv o1 => by
  cases d with
  | ref n =>
    simp only at o1
    split at o1
    · rename_i kds e1
      cases rv with
      | @ref _ a ha =>
        obtain ⟨nF, kvs, e2, ek, t⟩ := sr1.hr.ob n _ a e1 ha
        refine ⟨a, _, rfl, e2, trivial, fun ob => ?_⟩
        obtain ⟨l2, h2⟩ := hr_goneD (ob := ob) sr1.hr e1 ha e2 nF
        exact o1 (w1.frz a) _ (.ref a) l2 h2 (.dct upd_same ek (t.mono l2))
    · exact o1.elim
  | _ => exact o1.elim)⟩
theorem q_srtD (xo : XO g X) (hg : Gl X "sorted") (hm : g.mg "sorted" = none) (he : PE X e (tI g W f)) (hs : starEach [e] X.env = [(false, eval e X.env)] := by rfl) : PE X (.Call (.Name "sorted" p) [e] [] pos) (tI g W (xSrtD f)) := by
  have cl := pe_callB (p := p) (pos := pos) (call_sortedD (X := X) xo.calm) hg (by rw [xo.mg]; exact hm) (by decide +kernel) (pa_cons he pa_nil hs) (by decide +kernel) (by decide +kernel) hs
  refine ⟨fun pins s σ H Q I ⟨w, ρ, h, sr, o⟩ => cl.run pins s σ H Q I (tI_go sr o fun V H1 w1 d h1 l sr1 rv o1 => ?_)⟩
  split at o1
  · rename_i ks e1
    split at o1
    · rename_i hz
      rw [Option.bind_eq_some_iff] at e1
      obtain ⟨kds, e2, e3⟩ := e1
      obtain ⟨q, kvs, rfl, hp, ek, t⟩ := asD_ok e2 sr1.hr rv
      refine ⟨q, kvs, ks, rfl, hp, ek.trans (strKeys_ok e3), of_decide_eq_true hz, fun ys r hys hst hr => ?_⟩
      have ey := sorted_eq hys hst
      rw [ey]
      refine OKg.lst o1 sr1.hr ?_ r hr
      have : ∀ l : List Str, RVs g w1 H1 (l.map .str) (l.map V.str) := fun l => by
        induction l with
        | nil => exact .nil
        | cons x l ih => exact .cons (.str x) ih
      exact this _
    · exact o1.elim
  · exact o1.elim
theorem w_setP {i : Nat} {y : Str} (xp : XP g X) (hi : X.N[i]? = some y) (hx : Loc X.env.scope y) (ha : PE X a (tI g W fa)) (hs : swapsWith a (some (.Name y p2)) pos.line X.env = pure false := by rfl) (hf : X.fn y = true ∨ X.env.scope.names.lookup y = some .local := by first | exact .inl rfl | exact .inr rfl) : PS X (.Assign [.Name y p2] a pos) (tS g W (zSet i fa)) :=
  q_set (ps_set xp.nd hi hx ha hs hf) fun _ _ _ h => h
theorem lam_xo {k : Nat} {A : Around} {outer : List Env} {s : Shared} {E : XK} {scope : Scope} {fl c' : Addr} (xo : XO g X) (hr : RmG k (A.deeper (LamX.lamEnv X scope s.heap.objs.size fl c'))) : XO g (LamX.lamCx X A outer s H E scope fl c') :=
  ⟨⟨xo.K, xo.mg, xo.nd, by have z := hr.rm.un; show (A.deeper _).units + 200 < cLine; omega, hr.gd⟩, rfl⟩
theorem lam_tk {A : Around} {outer : List Env} {s : Shared} {E : XK} {scope : Scope} {fl c' : Addr} : Takes (LamX.lamCx X A outer s H E scope fl c') (fun c d _ H => E c d H) := takes_of rfl rfl rfl rfl
end
end Bx
namespace Bx
open PySem PySem.Spec PyProof.Rows L2
/-- the table of a code object of the written part -/
def codeTab (K : PySem.W.Frag) (cd : Value) : Option Addr := match cd with
  | .ref c => match K.lookup c with
    | some ⟨cls, _, .fields vs, _⟩ => match (vs[11]? : Option Value), vs.getD 18 .none, vs.getD 7 .none, vs.getD 9 .none, vs.getD 10 .none with
      | some (Value.ref P), Value.str _ _, Value.int _ _, Value.bool _, Value.int _ _ => if cls == .type "code" && !(c == P) && (K.lookup P).isNone then some P else none
      | _, _, _, _, _ => none
    | _ => none
  | _ => none
theorem codeTab_ok {K : PySem.W.Frag} {c P : Addr} (h : codeTab K (.ref c) = some P) : (∀ hp : Heap, K.In hp → PySem.W.CodeHd hp c P) ∧ K.lookup P = none ∧ ∃ e dd vs sl, K.lookup c = some ⟨e, dd, .fields vs, sl⟩ ∧ vs[11]? = some (.ref P) := by
  unfold codeTab at h
  dsimp only at h
  split at h
  · rename_i cls dd vs sl e1
    split at h
    · rename_i P' f t1 i1 t2 b1 i2 t3 e2 e3 e4 e5 e6
      split at h
      · rename_i hz
        cases h
        simp only [Bool.and_eq_true, beq_iff_eq, Bool.not_eq_true', beq_eq_false_iff_ne, Option.isNone_iff_eq_none] at hz
        refine ⟨fun hp X => ⟨_, vs, f, t1, i1, t2, b1, i2, t3, X c _ e1, hz.1.1, rfl, e2, ?_, e3, e4, e5, e6, hz.1.2⟩, hz.2, cls, dd, vs, sl, e1, e2⟩
        rw [Array.getD_eq_getD_getElem?, e2]
        rfl
      · cases h
    · cases h
  · cases h
theorem law_walkT {l : PySem.W.OpenLaw} {n k : Nat} {q : Program} {loose : List Str} {XP : (Str → Option Value) → Heap → Prop} {YP : World → Heap → Prop} {d : DefRec} {K : Params → PySem.W.Frag} {T : Tab} {x y : Str}
    (hn : l.most = some n) (hn2 : n ≤ sizeLine) (hdf : d.params.defaults = []) (hr : RmG k callerA) (hrec : ((recsOf q).any fun e => e.name == d.name) = true) (hY : ∀ (w : World) (h : Heap), YP w h → (K w.params).In h)
    (F : ∀ (w : World) (mg : Str → Option Value) (fa : Addr) (h : Heap), (K w.params).In h → h.Ns mainGlobals mg → mg d.name = some (.ref fa) →
      ∃ (fd : FuncData) (o : Obj) (c P : Addr) (qn : Str), (K w.params).lookup fa = some o ∧ o.data = .func fd ∧ fd.code = .ref c ∧ codeTab (K w.params) (.ref c) = some P ∧ (∀ (s : Shared) (u : Value), BindsTo s fd ⟨[u], []⟩ [(x, u)]) ∧
        ∀ base : Heap, (K w.params).In base → base.Ns mainGlobals mg → LamX.TabB base mg c P → FnG l.prog w ⟨K w.params, mg, [(P, qn)]⟩ base (L2.CX l.prog w) k fa fd [x] (spN ⟨K w.params, mg, [(P, qn)]⟩ (callN T k y) 1))
    (hrun : ∀ ns : List Int, ns.length ≤ n → ∃ hE, callN T k y [.scr ns] [] = .ok (.bl true) hE) :
    PySem.W.WalkO q loose XP YP l.row.toRowW d [] (fun f vs => PySem.call f vs) := by
  refine Att.attach_call hn hdf fun w s₀ s₁ mg mb fa o pm cd doc a vs ns G Y ho hd hcd hmg hobj hints hlen hg => ?_
  have KX := hY w _ Y
  obtain ⟨fd, o1, c, P, qn, k1, k2, k3, kt, hb, hF⟩ := F w mg fa _ KX G.T.g hmg
  obtain ⟨hE, he⟩ := hrun ns hlen
  obtain ⟨kc, kp, e, dd, us, sl, k4, k5⟩ := codeTab_ok kt
  have emp : s₁.heap.get? P = some { cls := .none, data := .fields #[] } := by
    obtain ⟨dL, hm, hn1⟩ := List.any_eq_true.mp hrec
    have hn3 : dL.name = d.name := beq_iff_eq.mp hn1
    obtain ⟨a', o', fd', c', P', h1, h2, h3, h4, h5, ⟨⟨oc, vc, e1, _, e3, e4⟩, hP⟩⟩ := G.T.tab dL hm
    rw [hn3, hmg] at h1
    cases h1
    rw [KX _ _ k1] at h2
    cases h2
    rw [k2] at h3
    cases h3
    rw [k3] at h4
    cases h4
    rw [KX _ _ k4] at e1
    cases e1
    cases e3
    rw [k5] at e4
    cases e4
    exact hP
  have one : ∀ {p : Addr × Addr}, p ∈ [(c, P)] → p = (c, P) := fun h => by simpa using h
  refine law_goes (g := ⟨K w.params, mg, [(P, qn)]⟩) (ts := [(c, P)]) KX G.T.g G.T.b G.T.builtins G.T.nolimit hg ⟨fun p z => ?_, fun p z => ?_, fun p z => ?_, fun r z => ?_⟩ G.T.bmain hobj hints (Nat.le_trans hlen hn2) hr (fun base b1 b2 tb => hF base b1 b2 (tb (c, P) (List.mem_cons_self ..))) hb he
  · obtain rfl := one z; exact emp
  · obtain rfl := one z; exact kp
  · obtain rfl := one z; exact kc _ KX
  · have : r = (P, qn) := by simpa using z
    subst this
    exact ⟨(c, P), List.mem_cons_self .., rfl⟩
end Bx
namespace Bx
open PySem PySem.Spec PyProof.Rows L2
/-- {"a": "b"} -/
def xDct1 (a b : Str) : Fn := fun _ h => .ok (.dct [(.inr a, .str b)]) h
section
variable {g : Gx} {W : WX} {X : Cx} {a C : Addr} {oe : Obj} {d : Option Addr} {pn : List (Addr × Obj)} {c c' : Str} {e : Expr} {f : Fn} {p p1 pos : Pos} {ns : List Str}
theorem q_dct1 {x y : Str} {j1 j2 : Nat} : PE X (.Dict [some (.Constant (.str x) j1 p)] [.Constant (.str y) j2 p1] pos) (tI g W (xDct1 x y)) := ⟨fun pins s σ H Q I ⟨w, ρ, h, sr, o⟩ =>
  (pe_lockN (pe_disp (pps_cons pe_str pe_str pps_nil) rfl rfl (by simp) (by simp))).run pins s σ H Q I fun q hq => ⟨upd_same, [(.inr x, .str y)], rfl, by simp, q, _, rfl, upd_same, trivial, fun ob => by
    rw [upd_twice, upd_twice]
    exact OKg.dct (kvs := [(.inr x, .str y)]) o sr.hr rfl (.one (.str y)) q ob hq⟩⟩
theorem u_isC (xp : XP g X) (Z : ErN g ns) (hc : c ∈ ns) (hm : g.mg c = some (.ref C)) (hz : Zc (.ref C) d oe) (hf : ∃ vs, oe.data = .fields vs) (hc' : c' ∈ ns) (hi : Gl X "isinstance") (hmi : g.mg "isinstance" = none) (hg : Gl X c') (he : PE (X.suite a ((a, oe) :: pn)) e (tI g W f)) (hdb : (c' == ("__debug__" : Str)) = false := by decide +kernel)
    (hs : starEach [e, .Name c' p1] X.env = (false, eval e X.env) :: starEach [.Name c' p1] X.env := by rfl) (hs2 : starEach [.Name c' p1] X.env = [(false, eval (.Name c' p1) X.env)] := by rfl) :
    PE (X.suite a ((a, oe) :: pn)) (.Call (.Name "isinstance" p) [e, .Name c' p1] [] pos) (tI g W (xIsC a d c (subT c c') f)) := by
  obtain ⟨as, rfl, Z⟩ := Z
  obtain ⟨⟨c'', C'⟩, ha, rfl⟩ := List.mem_map.mp hc'
  obtain ⟨_, k1, _, _, k2⟩ := Z.at hc hm
  exact q_isC xp k1 hz hf hi hmi (pe_glob (v := .ref C') hg (by show X.mg _ = _; rw [xp.mg]; exact Z.mg _ ha) rfl hdb) (cv := .ref C') (fun u hu => hu) (k2 _ ha) he hs hs2
theorem u_fldC (xp : XP g X) (Z : ErN g ns) (hc : c ∈ ns) (hm : g.mg c = some (.ref C)) (hz : Zc (.ref C) d oe) (hf : ∃ vs, oe.data = .fields vs) {n : Str} (he : PE (X.suite a ((a, oe) :: pn)) e (tI g W f)) (hb : attributeBase e n X.env (eval e X.env) = eval e X.env := by rfl) :
    PE (X.suite a ((a, oe) :: pn)) (.Attribute e n pos) (tI g W (xFldC a d c n f)) := by
  obtain ⟨as, rfl, Z⟩ := Z
  obtain ⟨_, k1, k2, _, _⟩ := Z.at hc hm
  exact q_fldC xp k1 k2 hz hf he hb
theorem way_mg (Z : ErN g ns) (hw : ("WayError" : Str) ∈ ns) : ∃ CW, g.mg "WayError" = some (.ref CW) := by
  obtain ⟨as, rfl, Z⟩ := Z
  obtain ⟨⟨c', C⟩, ha, e⟩ := List.mem_map.mp hw
  have z := Z.mg _ ha
  have e : c' = "WayError" := e
  rw [e] at z
  exact ⟨C, z⟩
theorem isC_at {b : Bool} {i : Nat} {ρ : Rho} {h : Hh} {ds : List D} (e : ρ[i]? = some (some (.cau a d c ds))) : xIsC a d c b (xV i) ρ h = .ok (.bl b) h := by
  simp [xIsC, xV, e]
theorem fldC_at {n : Str} {i : Nat} {ρ : Rho} {h : Hh} {y : D} (e : ρ[i]? = some (some (.cau a d c [y]))) (hn : fldOf c = n) : xFldC a d c n (xV i) ρ h = .ok y h := by
  simp [xFldC, xV, e, hn]
end
end Bx
namespace Bx
open PySem PySem.Spec PyProof.Rows L2
section
variable {g : Gx} {W : WX} {X : Cx} {a : Expr} {fa : Fn} {pos p : Pos} {wd : List (Str × D)} {x : Str} {wo : World}
theorem q_tninW (xo : XO g X) (hw : X.w = wo) (k : KW g wo x wd) (hg : Gl X x) (ha : PE X a (tI g W fa)) (hd : (x == ("__debug__" : Str)) = false := by decide +kernel) : PT X (.Compare a [.NotIn] [.Name x p] pos) (tT g W (yV (xNinW wd fa))) := by
  obtain ⟨d, es, n, hm, kd, kn⟩ := k.ex
  subst hw
  rw [← xo.mg] at hm
  rw [← xo.K] at kd kn
  refine ⟨fun pins s σ H Q I ⟨w, ρ, h, sr, o⟩ => (pt_cmpR (op_notIn_kd kd) ha (pe_glob (v := .ref d) hg hm rfl hd) rfl).run pins s σ H Q I ?_⟩
  have o' : OKg g (RV g) w H (wAt W σ) (fun V H1 => ∃ k, V = .bl k ∧ Q k H1) (xNinW wd fa ρ h) := (OKg.bind (R := RV g) o).imp fun V H1 ⟨w1, x, h1, l, hr, rv, o1⟩ => by
    unfold isB at o1
    split at o1
    · cases rv
      exact ⟨_, rfl, o1 w1 H1 _ (Later.refl w1 H1) hr rfl⟩
    · exact o1.elim
  refine tI_go sr o' fun V H1 w1 x h1 l sr1 rv o1 => ?_
  split at o1
  · rename_i z
    cases rv
    rcases kn z with ⟨e1, e2⟩ | ⟨dd, u, v, e1, e2, e3, e4⟩
    · rw [e1] at o1
      exact ⟨z, none, rfl, rfl, e2, o1.keep sr1.hr (.bl _)⟩
    · rw [e1] at o1
      exact ⟨z, some u, rfl, rfl, e2, o1.keep sr1.hr (.bl _)⟩
  · exact o1.elim
end
end Bx
namespace K90
open PySem PySem.Spec PyProof.Rows L2 Bx
def w_WIDTHS : List (Str × D) := [("list", .int 1), ("pair", .int 2), ("fun", .int 2)]
def w_WORDS : List (Str × D) := [("name", .int 1), ("call", .int 2), ("both", .int 2), ("row", .int 2), ("as", .int 2)]
def ern : List Str := ["WayError", "NoName"]
def b_su (av : Addr) (d : Option Addr) (c : Str) : Fs :=
  zSeq (zSet 2 (xLst (xCons (xIsC av d c (subT c "NoName") (xV 1)) (xNil))))
    (zSeq (zIf (yV (xBin neD (xM mCnt (xV 2) (xCons (xC (.bl true)) (xNil))) (xC (.int 1)))) (zRet (xTup (xCons (xC (.str "error")) (xCons (xLst (xNil)) (xCons (xLst (xNil)) (xNil)))))) (zNext))
    (zSeq (zSet 3 (xM mIdx (xV 2) (xCons (xC (.bl true)) (xNil))))
    (zIf (yV (xBin eqD (xV 3) (xC (.int 0)))) (zRet (xTup (xCons (xC (.str "error")) (xCons (xLst (xCons (xC (.int 0)) (xNil))) (xCons (xLst (xCons (xFldC av d c "name" (xV 1)) (xNil))) (xNil)))))) (zNext))))
def b_last : Fs := zRet (xTup (xCons (xC (.str "error")) (xCons (xLst (xNil)) (xCons (xLst (xNil)) (xNil)))))
def sv_raised (c : Str) (ds : List D) (h : Hh) : Res D := suEnd 1 b_last (b_su 0 none c (suR 4 1 (.cau 0 none c ds)) h)
noncomputable def b_is_name (cl : Str → List D → Hh → Res D) : Fs :=
  zRet (xAnd (xBi .isi (xCons (xV 0) (xCons (xC (.val (.ty "str"))) (xNil)))) (xAnd (xChain leD leD (xC (.int 1)) (xBi .len (xCons (xV 0) (xNil))) (xC (.int 8))) (xBi .all (xCons (xLcG lcF (iV (xV 0)) [1] (gN 1) (yYes) (xBin inD (xV 1) (xC (.str "abcdefghijklmnopqrstuvwxyz")))) (xNil)))))
noncomputable def fd_is_name : Fd := ⟨1, 2, b_is_name⟩
noncomputable def b_is_word (cl : Str → List D → Hh → Res D) : Fs :=
  zRet (xAnd (xBi .isi (xCons (xV 0) (xCons (xC (.val (.ty "str"))) (xNil)))) (xInW w_WIDTHS (xV 0)))
noncomputable def fd_is_word : Fd := ⟨1, 1, b_is_word⟩
noncomputable def b_is_kind (cl : Str → List D → Hh → Res D) : Fs :=
  zSeq (zIf (yV (xBi .isi (xCons (xV 0) (xCons (xC (.val (.ty "str"))) (xNil))))) (zRet (xCall 1 (cl "is_name") (xCons (xV 0) (xNil)))) (zNext))
    (zSeq (zIf (yOr (yNot (yV (xBi .isi (xCons (xV 0) (xCons (xC (.val (.ty "tuple"))) (xNil)))))) (yOr (yV (xBin ltD (xBi .len (xCons (xV 0) (xNil))) (xC (.int 2)))) (yOr (yNot (yV (xCall 1 (cl "is_word") (xCons (xIdx (xV 0) (xC (.int 0))) (xNil))))) (yV (xBin neD (xBi .len (xCons (xV 0) (xNil))) (xBin addD (xIdxW w_WIDTHS (xIdx (xV 0) (xC (.int 0)))) (xC (.int 1)))))))) (zRet (xC (.bl false))) (zNext))
    (zRet (xBi .all (xCons (xLcG lcF (iV (xSlc (xV 0) (xSome (xC (.int 1))) (xNo))) [1] (gN 1) (yYes) (xCall 1 (cl "is_kind") (xCons (xV 1) (xNil)))) (xNil)))))
noncomputable def fd_is_kind : Fd := ⟨1, 2, b_is_kind⟩
noncomputable def b_is_term (cl : Str → List D → Hh → Res D) : Fs :=
  zSeq (zIf (yOr (yNot (yV (xBi .isi (xCons (xV 0) (xCons (xC (.val (.ty "tuple"))) (xNil)))))) (yOr (yV (xBin ltD (xBi .len (xCons (xV 0) (xNil))) (xC (.int 2)))) (yOr (yNot (yV (xBi .isi (xCons (xIdx (xV 0) (xC (.int 0))) (xCons (xC (.val (.ty "str"))) (xNil)))))) (yV (xNinW w_WORDS (xIdx (xV 0) (xC (.int 0)))))))) (zRet (xC (.bl false))) (zNext))
    (zSeq (zIf (yV (xBin neD (xBi .len (xCons (xV 0) (xNil))) (xBin addD (xIdxW w_WORDS (xIdx (xV 0) (xC (.int 0)))) (xC (.int 1))))) (zRet (xC (.bl false))) (zNext))
    (zSeq (zIf (yV (xBin eqD (xIdx (xV 0) (xC (.int 0))) (xC (.str "name")))) (zRet (xCall 1 (cl "is_name") (xCons (xIdx (xV 0) (xC (.int 1))) (xNil)))) (zNext))
    (zSeq (zIf (yV (xBin eqD (xIdx (xV 0) (xC (.int 0))) (xC (.str "row")))) (zRet (xAnd (xCall 1 (cl "is_kind") (xCons (xIdx (xV 0) (xC (.int 1))) (xNil))) (xAnd (xBi .isi (xCons (xIdx (xV 0) (xC (.int 2))) (xCons (xC (.val (.ty "tuple"))) (xNil)))) (xBi .all (xCons (xLcG lcF (iV (xIdx (xV 0) (xC (.int 2)))) [1] (gN 1) (yYes) (xCall 1 (cl "is_term") (xCons (xV 1) (xNil)))) (xNil)))))) (zNext))
    (zSeq (zIf (yV (xBin eqD (xIdx (xV 0) (xC (.int 0))) (xC (.str "call")))) (zRet (xAnd (xCall 1 (cl "is_name") (xCons (xIdx (xV 0) (xC (.int 1))) (xNil))) (xCall 1 (cl "is_term") (xCons (xIdx (xV 0) (xC (.int 2))) (xNil))))) (zNext))
    (zRet (xAnd (xCall 1 (cl "is_term") (xCons (xIdx (xV 0) (xC (.int 2))) (xNil))) (xIfe (yV (xBin eqD (xIdx (xV 0) (xC (.int 0))) (xC (.str "both")))) (xCall 1 (cl "is_term") (xCons (xIdx (xV 0) (xC (.int 1))) (xNil))) (xCall 1 (cl "is_kind") (xCons (xIdx (xV 0) (xC (.int 1))) (xNil))))))))))
noncomputable def fd_is_term : Fd := ⟨1, 2, b_is_term⟩
noncomputable def b_looked (cl : Str → List D → Hh → Res D) : Fs :=
  zSeq (zIf (yV (xBin eqD (xIdx (xV 1) (xC (.int 0))) (xC (.str "name")))) (zSeq (zIf (yV (xBin ninD (xIdx (xV 1) (xC (.int 1))) (xV 0))) (zRaise "NoName" 1 (xCons (xIdx (xV 1) (xC (.int 1))) (xNil))) (zNext))
    (zRet (xIdx (xV 0) (xIdx (xV 1) (xC (.int 1)))))) (zNext))
    (zSeq (zIf (yV (xBin eqD (xIdx (xV 1) (xC (.int 0))) (xC (.str "both")))) (zSeq (zSet 4 (xCall 3 (cl "looked") (xCons (xV 0) (xCons (xIdx (xV 1) (xC (.int 1))) (xCons (xV 2) (xNil))))))
    (zRet (xTup (xCons (xC (.str "pair")) (xCons (xV 4) (xCons (xCall 3 (cl "looked") (xCons (xV 0) (xCons (xIdx (xV 1) (xC (.int 2))) (xCons (xV 2) (xNil))))) (xNil))))))) (zNext))
    (zSeq (zIf (yV (xBin eqD (xIdx (xV 1) (xC (.int 0))) (xC (.str "call")))) (zSeq (zSet 5 (xGet2 (xV 0) (xIdx (xV 1) (xC (.int 1))) (xC (.str ""))))
    (zSeq (zIf (yOr (yNot (yV (xBi .isi (xCons (xV 5) (xCons (xC (.val (.ty "tuple"))) (xNil)))))) (yV (xBin neD (xIdx (xV 5) (xC (.int 0))) (xC (.str "fun"))))) (zRaise "NoName" 1 (xCons (xIdx (xV 1) (xC (.int 1))) (xNil))) (zNext))
    (zSeq (zExpr (xM mApp (xV 2) (xCons (xTup (xCons (xCall 3 (cl "looked") (xCons (xV 0) (xCons (xIdx (xV 1) (xC (.int 2))) (xCons (xV 2) (xNil))))) (xCons (xIdx (xV 5) (xC (.int 1))) (xNil)))) (xNil))))
    (zRet (xIdx (xV 5) (xC (.int 2))))))) (zNext))
    (zSeq (zIf (yV (xBin eqD (xIdx (xV 1) (xC (.int 0))) (xC (.str "as")))) (zSeq (zExpr (xM mApp (xV 2) (xCons (xTup (xCons (xCall 3 (cl "looked") (xCons (xV 0) (xCons (xIdx (xV 1) (xC (.int 2))) (xCons (xV 2) (xNil))))) (xCons (xIdx (xV 1) (xC (.int 1))) (xNil)))) (xNil))))
    (zRet (xIdx (xV 1) (xC (.int 1))))) (zNext))
    (zSeq (zFor (iV (xIdx (xV 1) (xC (.int 2)))) (gN 3) (zExpr (xM mApp (xV 2) (xCons (xTup (xCons (xCall 3 (cl "looked") (xCons (xV 0) (xCons (xV 3) (xCons (xV 2) (xNil))))) (xCons (xIdx (xV 1) (xC (.int 1))) (xNil)))) (xNil)))))
    (zRet (xTup (xCons (xC (.str "list")) (xCons (xIdx (xV 1) (xC (.int 1))) (xNil)))))))))
noncomputable def fd_looked : Fd := ⟨3, 6, b_looked⟩
noncomputable def b_kind_of (cl : Str → List D → Hh → Res D) : Fs :=
  zRet (xCall 3 (cl "looked") (xCons (xV 0) (xCons (xV 1) (xCons (xNlst (xNil)) (xNil)))))
noncomputable def fd_kind_of : Fd := ⟨2, 2, b_kind_of⟩
noncomputable def b_places (cl : Str → List D → Hh → Res D) : Fs :=
  zSeq (zSet 2 (xNlst (xNil)))
    (zSeq (zExpr (xCall 3 (cl "looked") (xCons (xV 0) (xCons (xV 1) (xCons (xV 2) (xNil))))))
    (zRet (xV 2)))
noncomputable def fd_places : Fd := ⟨2, 3, b_places⟩
noncomputable def b__law_bag (cl : Str → List D → Hh → Res D) : Fs :=
  zRet (xNlst (xCons (xC (.int 0)) (xCons (xC (.int 1234567891)) (xCons (xC (.int 0)) (xCons (xLcG lcF (iV (xSlc (xV 0) (xNo) (xSome (xC (.int 63))))) [1] (gN 1) (yYes) (xBi .abs (xCons (xV 1) (xNil)))) (xNil))))))
noncomputable def fd__law_bag : Fd := ⟨1, 2, b__law_bag⟩
noncomputable def b__law_take (cl : Str → List D → Hh → Res D) : Fs :=
  zSeq (zIf (yV (xBin eqD (xIdx (xV 0) (xC (.int 0))) (xC (.int 0)))) (zSeq (zSet 4 (xC (.int 0)))
    (zSeq (zIf (yV (xBin ltD (xIdx (xV 0) (xC (.int 2))) (xBi .len (xCons (xIdx (xV 0) (xC (.int 3))) (xNil))))) (zSet 4 (xIdx (xIdx (xV 0) (xC (.int 3))) (xIdx (xV 0) (xC (.int 2))))) (zNext))
    (zSeq (zAugIx iaddD (xV 0) (xC (.int 2)) (xC (.int 1)))
    (zSeq (zIf (yV (xBin geD (xV 4) (xC (.int 1000000000000000000)))) (zSetIx (xV 0) (xC (.int 0)) (xV 4)) (zNext))
    (zSeq (zSet 5 (xBin addD (xBin addD (xBin mulD (xIdx (xV 0) (xC (.int 1))) (xC (.int 48271))) (xBin modD (xBi .int (xCons (xV 4) (xNil))) (xC (.int 2147483647)))) (xBin mulD (xC (.int 7919)) (xIdx (xV 0) (xC (.int 2))))))
    (zSetIx (xV 0) (xC (.int 1)) (xBin modD (xBi .int (xCons (xV 5) (xNil))) (xC (.int 2147483647))))))))) (zNext))
    (zSeq (zIf (yV (xBin gtD (xIdx (xV 0) (xC (.int 0))) (xC (.int 0)))) (zSeq (zSet 6 (xBin modD (xBi .int (xCons (xIdx (xV 0) (xC (.int 0))) (xNil))) (xV 1)))
    (zSeq (zSetIx (xV 0) (xC (.int 0)) (xBin fdivD (xIdx (xV 0) (xC (.int 0))) (xV 1)))
    (zRet (xV 6)))) (zNext))
    (zSeq (zSet 2 (xBin modD (xBi .int (xCons (xBin mulD (xBin addD (xIdx (xV 0) (xC (.int 1))) (xC (.int 1))) (xC (.int 39373))) (xNil))) (xC (.int 1000000007))))
    (zSeq (zSet 3 (xBin modD (xBi .int (xCons (xBin mulD (xBin modD (xBi .int (xCons (xBin mulD (xV 2) (xV 2)) (xNil))) (xC (.int 998244353))) (xC (.int 30011))) (xNil))) (xC (.int 998244353))))
    (zSeq (zIf (yV (xBin gtD (xV 1) (xC (.int 1000000)))) (zRet (xBin modD (xBi .int (xCons (xBin addD (xBin mulD (xV 3) (xC (.int 1000000007))) (xV 2)) (xNil))) (xV 1))) (zNext))
    (zRet (xBin modD (xBi .int (xCons (xBin fdivD (xV 3) (xC (.int 7))) (xNil))) (xV 1)))))))
noncomputable def fd__law_take : Fd := ⟨2, 7, b__law_take⟩
noncomputable def b__law_alike (cl : Str → List D → Hh → Res D) : Fs :=
  zRet (xAnd (xBin eqD (xV 0) (xV 1)) (xBin eqD (xBi .repr (xCons (xV 0) (xNil))) (xBi .repr (xCons (xV 1) (xNil)))))
noncomputable def fd__law_alike : Fd := ⟨2, 2, b__law_alike⟩
noncomputable def b__law_one (cl : Str → List D → Hh → Res D) : Fs :=
  zRet (xIdx (xV 1) (xCall 2 (cl "_law_take") (xCons (xV 0) (xCons (xBi .len (xCons (xV 1) (xNil))) (xNil)))))
noncomputable def fd__law_one : Fd := ⟨2, 2, b__law_one⟩
noncomputable def b__law_names (cl : Str → List D → Hh → Res D) : Fs :=
  zSeq (zSet 2 (xStr1 splitD (xC (.str "list pair fun same then a ab abc row both as names zzzzzzzz book word z")) (xC (.str " "))))
    (zSeq (zAsg (gT2 5 6) (xTup (xCons (xCall 2 (cl "_law_take") (xCons (xV 0) (xCons (xC (.int 4)) (xNil)))) (xCons (xCall 2 (cl "_law_take") (xCons (xV 0) (xCons (xC (.int 16)) (xNil)))) (xNil)))))
    (zSeq (zIf (yV (xBin eqD (xV 5) (xC (.int 0)))) (zRet (xBi .sorted (xCons (xSlc (xBin addD (xSlc (xV 2) (xSome (xV 6)) (xNo)) (xSlc (xV 2) (xNo) (xSome (xV 6)))) (xNo) (xSome (xV 1))) (xNil)))) (zNext))
    (zSeq (zIf (yV (xBin eqD (xV 5) (xC (.int 1)))) (zRet (xBi .sorted (xCons (xLcG lcF (iR1 (xCons (xV 1) (xNil))) [7] (gN 7) (yYes) (xSlc (xC (.str "aaaaaaaa")) (xNo) (xSome (xBin addD (xV 7) (xC (.int 1)))))) (xNil)))) (zNext))
    (zSeq (zSet 3 (xC (.str "abcdefghijklmnopqrstuvwxyz")))
    (zSeq (zSet 4 (xStr1 joinD (xC (.str "")) (xLcG lcF (iR1 (xCons (xBin subD (xV 5) (xC (.int 1))) (xNil))) [7] (gN 7) (yYes) (xIdx (xV 3) (xCall 2 (cl "_law_take") (xCons (xV 0) (xCons (xC (.int 26)) (xNil))))))))
    (zRet (xBi .sorted (xCons (xLcG lcF (iR1 (xCons (xV 1) (xNil))) [7] (gN 7) (yYes) (xBin addD (xV 4) (xIdx (xV 3) (xBin modD (xBi .int (xCons (xBin addD (xV 6) (xBin mulD (xC (.int 3)) (xV 7))) (xNil))) (xC (.int 26)))))) (xNil)))))))))
noncomputable def fd__law_names : Fd := ⟨2, 8, b__law_names⟩
noncomputable def b__law_kind (cl : Str → List D → Hh → Res D) : Fs :=
  zSeq (zSet 3 (xCall 2 (cl "_law_take") (xCons (xV 0) (xCons (xC (.int 4)) (xNil)))))
    (zSeq (zIf (yOr (yV (xBin ltD (xV 2) (xC (.int 2)))) (yV (xBin ltD (xV 3) (xC (.int 2))))) (zRet (xCall 2 (cl "_law_one") (xCons (xV 0) (xCons (xV 1) (xNil))))) (zNext))
    (zSeq (zIf (yOr (yV (xBin eqD (xV 3) (xC (.int 2)))) (yV (xBin ltD (xV 2) (xC (.int 3))))) (zRet (xTup (xCons (xC (.str "list")) (xCons (xCall 3 (cl "_law_kind") (xCons (xV 0) (xCons (xV 1) (xCons (xBin subD (xV 2) (xC (.int 1))) (xNil))))) (xNil))))) (zNext))
    (zSeq (zSet 4 (xBin addD (xC (.int 1)) (xCall 2 (cl "_law_take") (xCons (xV 0) (xCons (xBin subD (xV 2) (xC (.int 2))) (xNil))))))
    (zRet (xTup (xCons (xC (.str "pair")) (xCons (xCall 3 (cl "_law_kind") (xCons (xV 0) (xCons (xV 1) (xCons (xV 4) (xNil))))) (xCons (xCall 3 (cl "_law_kind") (xCons (xV 0) (xCons (xV 1) (xCons (xBin subD (xBin subD (xV 2) (xC (.int 1))) (xV 4)) (xNil))))) (xNil)))))))))
noncomputable def fd__law_kind : Fd := ⟨3, 5, b__law_kind⟩
noncomputable def b__law_any_kind (cl : Str → List D → Hh → Res D) : Fs :=
  zSeq (zSet 3 (xCall 2 (cl "_law_take") (xCons (xV 0) (xCons (xC (.int 5)) (xNil)))))
    (zSeq (zIf (yOr (yV (xBin ltD (xV 2) (xC (.int 2)))) (yV (xBin ltD (xV 3) (xC (.int 2))))) (zRet (xCall 2 (cl "_law_one") (xCons (xV 0) (xCons (xV 1) (xNil))))) (zNext))
    (zSeq (zIf (yOr (yV (xBin eqD (xV 3) (xC (.int 2)))) (yV (xBin ltD (xV 2) (xC (.int 3))))) (zRet (xTup (xCons (xC (.str "list")) (xCons (xCall 3 (cl "_law_any_kind") (xCons (xV 0) (xCons (xV 1) (xCons (xBin subD (xV 2) (xC (.int 1))) (xNil))))) (xNil))))) (zNext))
    (zSeq (zSet 4 (xBin addD (xC (.int 1)) (xCall 2 (cl "_law_take") (xCons (xV 0) (xCons (xBin subD (xV 2) (xC (.int 2))) (xNil))))))
    (zSeq (zSet 5 (xIdx (xLst (xCons (xC (.str "pair")) (xCons (xC (.str "fun")) (xNil)))) (xBin subD (xV 3) (xC (.int 3)))))
    (zRet (xTup (xCons (xV 5) (xCons (xCall 3 (cl "_law_any_kind") (xCons (xV 0) (xCons (xV 1) (xCons (xV 4) (xNil))))) (xCons (xCall 3 (cl "_law_any_kind") (xCons (xV 0) (xCons (xV 1) (xCons (xBin subD (xBin subD (xV 2) (xC (.int 1))) (xV 4)) (xNil))))) (xNil))))))))))
noncomputable def fd__law_any_kind : Fd := ⟨3, 6, b__law_any_kind⟩
noncomputable def b__law_size (cl : Str → List D → Hh → Res D) : Fs :=
  zRet (xIfe (yV (xBi .isi (xCons (xV 0) (xCons (xC (.val (.ty "str"))) (xNil))))) (xC (.int 1)) (xBin addD (xC (.int 1)) (xBi .sum (xCons (xLcG lcF (iV (xSlc (xV 0) (xSome (xC (.int 1))) (xNo))) [1] (gN 1) (yYes) (xCall 1 (cl "_law_size") (xCons (xV 1) (xNil)))) (xNil)))))
noncomputable def fd__law_size : Fd := ⟨1, 2, b__law_size⟩
noncomputable def b__law_odd_value (cl : Str → List D → Hh → Res D) : Fs :=
  zSeq (zSet 1 (xLst (xNil)))
    (zSeq (zFor (iR1 (xCons (xC (.int 26)) (xNil))) (gN 2) (zSet 1 (xLst (xCons (xV 1) (xNil)))))
    (zSeq (zSet 3 (xLst (xCons (xC .non) (xCons (xC (.bl true)) (xCons (xC (.int 0)) (xCons (xUn negD (xC (.int 1))) (xCons (xBin powD (xC (.int 10)) (xC (.int 39))) (xCons (xC (.str "")) (xCons (xC (.str "A")) (xCons (xC (.str "ninesigns")) (xCons (xC (.str "a b")) (xCons (xTup (xNil)) (xCons (xDct0) (xCons (xDct1 "a" "b") (xCons (xTup (xCons (xC (.str "a")) (xNil))) (xCons (xLst (xCons (xC (.str "a")) (xNil))) (xCons (xV 1) (xNil))))))))))))))))))
    (zRet (xIdx (xBin addD (xV 3) (xLst (xCons (xTup (xCons (xC (.str "same")) (xCons (xC (.str "a")) (xNil)))) (xCons (xTup (xCons (xC (.str "list")) (xCons (xC (.str "a")) (xNil)))) (xCons (xBin mulD (xLst (xCons (xC (.int 0)) (xNil))) (xC (.int 4900))) (xNil)))))) (xCall 2 (cl "_law_take") (xCons (xV 0) (xCons (xC (.int 18)) (xNil))))))))
noncomputable def fd__law_odd_value : Fd := ⟨1, 4, b__law_odd_value⟩
noncomputable def b__law_term (cl : Str → List D → Hh → Res D) : Fs :=
  zSeq (zSet 4 (xCall 2 (cl "_law_take") (xCons (xV 0) (xCons (xC (.int 7)) (xNil)))))
    (zSeq (zSet 5 (xLcG lcF (iV (xSrtD (xV 2))) [7] (gN 7) (yAnd (yV (xBin eqD (xIdx (xIdx (xV 2) (xV 7)) (xC (.int 0))) (xC (.str "fun")))) (yV (xBi .isi (xCons (xIdx (xV 2) (xV 7)) (xCons (xC (.val (.ty "tuple"))) (xNil)))))) (xV 7)))
    (zSeq (zIf (yOr (yV (xBin eqD (xV 3) (xC (.int 0)))) (yV (xBin ltD (xV 4) (xC (.int 2))))) (zSeq (zSet 7 (xCall 2 (cl "_law_one") (xCons (xV 0) (xCons (xSrtD (xV 2)) (xNil)))))
    (zRet (xTup (xCons (xTup (xCons (xC (.str "name")) (xCons (xV 7) (xNil)))) (xCons (xIdx (xV 2) (xV 7)) (xNil)))))) (zNext))
    (zSeq (zIf (yV (xBin eqD (xV 4) (xC (.int 2)))) (zSeq (zPar 10 11 (xCons (xCall 4 (cl "_law_term") (xCons (xV 0) (xCons (xV 1) (xCons (xV 2) (xCons (xBin subD (xV 3) (xC (.int 1))) (xNil)))))) (xCons (xCall 4 (cl "_law_term") (xCons (xV 0) (xCons (xV 1) (xCons (xV 2) (xCons (xBin subD (xV 3) (xC (.int 1))) (xNil)))))) (xNil))))
    (zSeq (zIf (yV (xBin gtD (xBin addD (xCall 1 (cl "_law_size") (xCons (xIdx (xV 10) (xC (.int 1))) (xNil))) (xCall 1 (cl "_law_size") (xCons (xIdx (xV 11) (xC (.int 1))) (xNil)))) (xC (.int 7)))) (zRet (xV 10)) (zNext))
    (zRet (xTup (xCons (xTup (xCons (xC (.str "both")) (xCons (xIdx (xV 10) (xC (.int 0))) (xCons (xIdx (xV 11) (xC (.int 0))) (xNil))))) (xCons (xTup (xCons (xC (.str "pair")) (xCons (xIdx (xV 10) (xC (.int 1))) (xCons (xIdx (xV 11) (xC (.int 1))) (xNil))))) (xNil))))))) (zNext))
    (zSeq (zIf (yAnd (yV (xBin eqD (xV 4) (xC (.int 3)))) (yV (xBin neD (xV 5) (xLst (xNil))))) (zSeq (zSet 7 (xCall 2 (cl "_law_one") (xCons (xV 0) (xCons (xV 5) (xNil)))))
    (zRet (xTup (xCons (xTup (xCons (xC (.str "call")) (xCons (xV 7) (xCons (xIdx (xCall 4 (cl "_law_term") (xCons (xV 0) (xCons (xV 1) (xCons (xV 2) (xCons (xBin subD (xV 3) (xC (.int 1))) (xNil)))))) (xC (.int 0))) (xNil))))) (xCons (xIdx (xIdx (xV 2) (xV 7)) (xC (.int 2))) (xNil)))))) (zNext))
    (zSeq (zSet 6 (xIfe (yV (xBin eqD (xCall 2 (cl "_law_take") (xCons (xV 0) (xCons (xC (.int 3)) (xNil)))) (xC (.int 0)))) (xCall 3 (cl "_law_any_kind") (xCons (xV 0) (xCons (xV 1) (xCons (xC (.int 3)) (xNil))))) (xCall 3 (cl "_law_kind") (xCons (xV 0) (xCons (xV 1) (xCons (xC (.int 3)) (xNil)))))))
    (zSeq (zIf (yV (xBin eqD (xV 4) (xC (.int 4)))) (zSeq (zSet 8 (xIdx (xLst (xCons (xC (.int 0)) (xCons (xC (.int 1)) (xCons (xC (.int 2)) (xCons (xC (.int 2)) (xCons (xC (.int 3)) (xCons (xC (.int 6)) (xNil)))))))) (xCall 2 (cl "_law_take") (xCons (xV 0) (xCons (xC (.int 6)) (xNil))))))
    (zSeq (zSet 9 (xLcG lcF (iR1 (xCons (xV 8) (xNil))) [12] (gN 12) (yYes) (xIdx (xCall 4 (cl "_law_term") (xCons (xV 0) (xCons (xV 1) (xCons (xV 2) (xCons (xBin subD (xV 3) (xC (.int 1))) (xNil)))))) (xC (.int 0)))))
    (zRet (xTup (xCons (xTup (xCons (xC (.str "row")) (xCons (xV 6) (xCons (xBi .tuple (xCons (xV 9) (xNil))) (xNil))))) (xCons (xTup (xCons (xC (.str "list")) (xCons (xV 6) (xNil)))) (xNil))))))) (zNext))
    (zRet (xTup (xCons (xTup (xCons (xC (.str "as")) (xCons (xV 6) (xCons (xIdx (xCall 4 (cl "_law_term") (xCons (xV 0) (xCons (xV 1) (xCons (xV 2) (xCons (xBin subD (xV 3) (xC (.int 1))) (xNil)))))) (xC (.int 0))) (xNil))))) (xCons (xV 6) (xNil)))))))))))
noncomputable def fd__law_term : Fd := ⟨4, 13, b__law_term⟩
noncomputable def b__law_signature (cl : Str → List D → Hh → Res D) : Fs :=
  zSeq (zSet 2 (xNdct0))
    (zSeq (zFor (iV (xSlc (xLst (xCons (xC (.str "x")) (xCons (xC (.str "f")) (xCons (xC (.str "list")) (xCons (xC (.str "print")) (xNil)))))) (xNo) (xSome (xBin addD (xC (.int 1)) (xCall 2 (cl "_law_take") (xCons (xV 0) (xCons (xC (.int 4)) (xNil)))))))) (gN 3) (zSeq (zSet 4 (xCall 3 (cl "_law_any_kind") (xCons (xV 0) (xCons (xV 1) (xCons (xC (.int 3)) (xNil))))))
    (zSeq (zIf (yAnd (yV (xBin inD (xV 3) (xTup (xCons (xC (.str "f")) (xCons (xC (.str "print")) (xNil)))))) (yV (xBin gtD (xCall 2 (cl "_law_take") (xCons (xV 0) (xCons (xC (.int 3)) (xNil)))) (xC (.int 0))))) (zSet 4 (xTup (xCons (xC (.str "fun")) (xCons (xCall 3 (cl "_law_kind") (xCons (xV 0) (xCons (xV 1) (xCons (xC (.int 2)) (xNil))))) (xCons (xCall 3 (cl "_law_kind") (xCons (xV 0) (xCons (xV 1) (xCons (xC (.int 2)) (xNil))))) (xNil)))))) (zNext))
    (zSetKy (xV 2) (xV 3) (xV 4)))))
    (zRet (xGoD (xV 2))))
noncomputable def fd__law_signature : Fd := ⟨2, 5, b__law_signature⟩
noncomputable def b__law_looked (cl : Str → List D → Hh → Res D) : Fs :=
  zSeq (zIf (yV (xBin eqD (xIdx (xV 1) (xC (.int 0))) (xC (.str "name")))) (zRet (xIfe (yV (xBin inD (xIdx (xV 1) (xC (.int 1))) (xV 0))) (xTup (xCons (xIdx (xV 0) (xIdx (xV 1) (xC (.int 1)))) (xCons (xLst (xNil)) (xNil)))) (xTup (xCons (xIdx (xV 1) (xC (.int 1))) (xCons (xC .non) (xNil)))))) (zNext))
    (zSeq (zIf (yV (xBin eqD (xIdx (xV 1) (xC (.int 0))) (xC (.str "both")))) (zSeq (zSet 3 (xCall 2 (cl "_law_looked") (xCons (xV 0) (xCons (xIdx (xV 1) (xC (.int 1))) (xNil)))))
    (zSeq (zSet 4 (xIfe (yV (xBin isnD (xIdx (xV 3) (xC (.int 1))) (xC .non))) (xCall 2 (cl "_law_looked") (xCons (xV 0) (xCons (xIdx (xV 1) (xC (.int 2))) (xNil)))) (xV 3)))
    (zSeq (zIf (yV (xBin isD (xIdx (xV 4) (xC (.int 1))) (xC .non))) (zRet (xV 4)) (zNext))
    (zRet (xTup (xCons (xTup (xCons (xC (.str "pair")) (xCons (xIdx (xV 3) (xC (.int 0))) (xCons (xIdx (xV 4) (xC (.int 0))) (xNil))))) (xCons (xBin addD (xIdx (xV 3) (xC (.int 1))) (xIdx (xV 4) (xC (.int 1)))) (xNil)))))))) (zNext))
    (zSeq (zIf (yV (xBin eqD (xIdx (xV 1) (xC (.int 0))) (xC (.str "call")))) (zSeq (zSet 5 (xGet2 (xV 0) (xIdx (xV 1) (xC (.int 1))) (xC (.str ""))))
    (zSeq (zIf (yOr (yNot (yV (xBi .isi (xCons (xV 5) (xCons (xC (.val (.ty "tuple"))) (xNil)))))) (yV (xBin neD (xIdx (xV 5) (xC (.int 0))) (xC (.str "fun"))))) (zRet (xTup (xCons (xIdx (xV 1) (xC (.int 1))) (xCons (xC .non) (xNil))))) (zNext))
    (zSeq (zSet 3 (xCall 2 (cl "_law_looked") (xCons (xV 0) (xCons (xIdx (xV 1) (xC (.int 2))) (xNil)))))
    (zSeq (zIf (yV (xBin isD (xIdx (xV 3) (xC (.int 1))) (xC .non))) (zRet (xV 3)) (zNext))
    (zRet (xTup (xCons (xIdx (xV 5) (xC (.int 2))) (xCons (xBin addD (xIdx (xV 3) (xC (.int 1))) (xLst (xCons (xTup (xCons (xIdx (xV 3) (xC (.int 0))) (xCons (xIdx (xV 5) (xC (.int 1))) (xNil)))) (xNil)))) (xNil))))))))) (zNext))
    (zSeq (zPar 6 7 (xCons (xIfe (yV (xBin eqD (xIdx (xV 1) (xC (.int 0))) (xC (.str "row")))) (xBi .list (xCons (xIdx (xV 1) (xC (.int 2))) (xNil))) (xLst (xCons (xIdx (xV 1) (xC (.int 2))) (xNil)))) (xCons (xLst (xNil)) (xNil))))
    (zSeq (zFor (iV (xV 6)) (gN 2) (zSeq (zSet 3 (xCall 2 (cl "_law_looked") (xCons (xV 0) (xCons (xV 2) (xNil)))))
    (zSeq (zIf (yV (xBin isD (xIdx (xV 3) (xC (.int 1))) (xC .non))) (zRet (xV 3)) (zNext))
    (zSet 7 (xBin addD (xBin addD (xV 7) (xIdx (xV 3) (xC (.int 1)))) (xLst (xCons (xTup (xCons (xIdx (xV 3) (xC (.int 0))) (xCons (xIdx (xV 1) (xC (.int 1))) (xNil)))) (xNil))))))))
    (zRet (xTup (xCons (xIfe (yV (xBin eqD (xIdx (xV 1) (xC (.int 0))) (xC (.str "row")))) (xTup (xCons (xC (.str "list")) (xCons (xIdx (xV 1) (xC (.int 1))) (xNil)))) (xIdx (xV 1) (xC (.int 1)))) (xCons (xV 7) (xNil)))))))))
noncomputable def fd__law_looked : Fd := ⟨2, 8, b__law_looked⟩
noncomputable def b__law_is_name (cl : Str → List D → Hh → Res D) : Fs :=
  zSeq (zIf (yOr (yNot (yV (xBi .isi (xCons (xV 0) (xCons (xC (.val (.ty "str"))) (xNil)))))) (yNot (yV (xChain leD leD (xC (.int 1)) (xBi .len (xCons (xV 0) (xNil))) (xC (.int 8)))))) (zRet (xC (.bl false))) (zNext))
    (zRet (xBin eqD (xLcG lcF (iV (xV 0)) [1] (gN 1) (yV (xBin ninD (xV 1) (xC (.str "abcdefghijklmnopqrstuvwxyz")))) (xV 1)) (xLst (xNil))))
noncomputable def fd__law_is_name : Fd := ⟨1, 2, b__law_is_name⟩
noncomputable def b__law_is_kind (cl : Str → List D → Hh → Res D) : Fs :=
  zSeq (zIf (yNot (yV (xBi .isi (xCons (xV 0) (xCons (xC (.val (.ty "tuple"))) (xNil)))))) (zRet (xCall 1 (cl "_law_is_name") (xCons (xV 0) (xNil)))) (zNext))
    (zSeq (zIf (yOr (yV (xBin ninD (xBi .len (xCons (xV 0) (xNil))) (xTup (xCons (xC (.int 2)) (xCons (xC (.int 3)) (xNil)))))) (yOr (yNot (yV (xBi .isi (xCons (xIdx (xV 0) (xC (.int 0))) (xCons (xC (.val (.ty "str"))) (xNil)))))) (yV (xBin ninD (xIdx (xV 0) (xC (.int 0))) (xTup (xCons (xC (.str "list")) (xCons (xC (.str "pair")) (xCons (xC (.str "fun")) (xNil))))))))) (zRet (xC (.bl false))) (zNext))
    (zSeq (zIf (yV (xBin neD (xBi .len (xCons (xV 0) (xNil))) (xIdx (xLst (xCons (xC (.int 2)) (xCons (xC (.int 3)) (xNil)))) (xBi .int (xCons (xBin neD (xIdx (xV 0) (xC (.int 0))) (xC (.str "list"))) (xNil)))))) (zRet (xC (.bl false))) (zNext))
    (zRet (xBin eqD (xLcG lcF (iV (xSlc (xV 0) (xSome (xC (.int 1))) (xNo))) [1] (gN 1) (yNot (yV (xCall 1 (cl "_law_is_kind") (xCons (xV 1) (xNil))))) (xV 1)) (xLst (xNil))))))
noncomputable def fd__law_is_kind : Fd := ⟨1, 2, b__law_is_kind⟩
noncomputable def b__law_is_term (cl : Str → List D → Hh → Res D) : Fs :=
  zSeq (zIf (yOr (yNot (yV (xBi .isi (xCons (xV 0) (xCons (xC (.val (.ty "tuple"))) (xNil)))))) (yOr (yV (xBin ninD (xBi .len (xCons (xV 0) (xNil))) (xTup (xCons (xC (.int 2)) (xCons (xC (.int 3)) (xNil)))))) (yNot (yV (xBi .isi (xCons (xIdx (xV 0) (xC (.int 0))) (xCons (xC (.val (.ty "str"))) (xNil)))))))) (zRet (xC (.bl false))) (zNext))
    (zSeq (zIf (yV (xBin eqD (xIdx (xV 0) (xC (.int 0))) (xC (.str "name")))) (zRet (xAnd (xBin eqD (xBi .len (xCons (xV 0) (xNil))) (xC (.int 2))) (xCall 1 (cl "_law_is_name") (xCons (xIdx (xV 0) (xC (.int 1))) (xNil))))) (zNext))
    (zSeq (zIf (yOr (yV (xBin ninD (xIdx (xV 0) (xC (.int 0))) (xTup (xCons (xC (.str "call")) (xCons (xC (.str "both")) (xCons (xC (.str "row")) (xCons (xC (.str "as")) (xNil)))))))) (yV (xBin neD (xBi .len (xCons (xV 0) (xNil))) (xC (.int 3))))) (zRet (xC (.bl false))) (zNext))
    (zSeq (zIf (yV (xBin eqD (xIdx (xV 0) (xC (.int 0))) (xC (.str "call")))) (zRet (xAnd (xCall 1 (cl "_law_is_name") (xCons (xIdx (xV 0) (xC (.int 1))) (xNil))) (xCall 1 (cl "_law_is_term") (xCons (xIdx (xV 0) (xC (.int 2))) (xNil))))) (zNext))
    (zSeq (zIf (yV (xBin eqD (xIdx (xV 0) (xC (.int 0))) (xC (.str "both")))) (zRet (xAnd (xCall 1 (cl "_law_is_term") (xCons (xIdx (xV 0) (xC (.int 1))) (xNil))) (xCall 1 (cl "_law_is_term") (xCons (xIdx (xV 0) (xC (.int 2))) (xNil))))) (zNext))
    (zSeq (zIf (yOr (yNot (yV (xCall 1 (cl "_law_is_kind") (xCons (xIdx (xV 0) (xC (.int 1))) (xNil))))) (yV (xBin eqD (xIdx (xV 0) (xC (.int 0))) (xC (.str "as"))))) (zRet (xAnd (xCall 1 (cl "_law_is_kind") (xCons (xIdx (xV 0) (xC (.int 1))) (xNil))) (xCall 1 (cl "_law_is_term") (xCons (xIdx (xV 0) (xC (.int 2))) (xNil))))) (zNext))
    (zRet (xAnd (xBi .isi (xCons (xIdx (xV 0) (xC (.int 2))) (xCons (xC (.val (.ty "tuple"))) (xNil)))) (xBin eqD (xLcG lcF (iV (xIdx (xV 0) (xC (.int 2)))) [1] (gN 1) (yNot (yV (xCall 1 (cl "_law_is_term") (xCons (xV 1) (xNil))))) (xV 1)) (xLst (xNil))))))))))
noncomputable def fd__law_is_term : Fd := ⟨1, 2, b__law_is_term⟩
noncomputable def b__law_bent (cl : Str → List D → Hh → Res D) : Fs :=
  zSeq (zIf (yOr (yNot (yV (xBi .isi (xCons (xV 1) (xCons (xC (.val (.ty "tuple"))) (xNil)))))) (yOr (yV (xBin eq0D (xV 1) (xTup (xNil)))) (yV (xBin eqD (xCall 2 (cl "_law_take") (xCons (xV 0) (xCons (xC (.int 4)) (xNil)))) (xC (.int 0)))))) (zRet (xIdx (xLst (xCons (xCall 1 (cl "_law_odd_value") (xCons (xV 0) (xNil))) (xCons (xC (.str "y")) (xCons (xC (.str "Row")) (xCons (xTup (xCons (xC (.str "name")) (xCons (xC (.str "y")) (xNil)))) (xCons (xTup (xCons (xC (.str "call")) (xCons (xC (.str "x")) (xCons (xTup (xCons (xC (.str "name")) (xCons (xC (.str "x")) (xNil)))) (xNil))))) (xNil))))))) (xCall 2 (cl "_law_take") (xCons (xV 0) (xCons (xC (.int 5)) (xNil)))))) (zNext))
    (zSeq (zPar 2 3 (xCons (xCall 2 (cl "_law_take") (xCons (xV 0) (xCons (xBi .len (xCons (xV 1) (xNil))) (xNil)))) (xCons (xCall 2 (cl "_law_take") (xCons (xV 0) (xCons (xC (.int 8)) (xNil)))) (xNil))))
    (zSeq (zIf (yV (xBin eqD (xV 3) (xC (.int 0)))) (zRet (xBin addD (xV 1) (xTup (xCons (xIdx (xV 1) (xV 2)) (xNil))))) (zNext))
    (zSeq (zIf (yV (xBin eqD (xV 3) (xC (.int 1)))) (zRet (xBin addD (xSlc (xV 1) (xNo) (xSome (xV 2))) (xSlc (xV 1) (xSome (xBin addD (xV 2) (xC (.int 1)))) (xNo)))) (zNext))
    (zSeq (zIf (yV (xBin eqD (xV 3) (xC (.int 2)))) (zRet (xBi .list (xCons (xV 1) (xNil)))) (zNext))
    (zRet (xBin addD (xBin addD (xSlc (xV 1) (xNo) (xSome (xV 2))) (xTup (xCons (xCall 2 (cl "_law_bent") (xCons (xV 0) (xCons (xIdx (xV 1) (xV 2)) (xNil)))) (xNil)))) (xSlc (xV 1) (xSome (xBin addD (xV 2) (xC (.int 1)))) (xNo))))))))
noncomputable def fd__law_bent : Fd := ⟨2, 4, b__law_bent⟩
noncomputable def b_law (cl : Str → List D → Hh → Res D) : Fs :=
  zSeq (zSet 1 (xCall 1 (cl "_law_bag") (xCons (xV 0) (xNil))))
    (zSeq (zFor (iR1 (xCons (xC (.int 12)) (xNil))) (gN 2) (zSeq (zSet 3 (xCall 2 (cl "_law_names") (xCons (xV 1) (xCons (xC (.int 3)) (xNil)))))
    (zSeq (zSet 4 (xCall 2 (cl "_law_signature") (xCons (xV 1) (xCons (xV 3) (xNil)))))
    (zSeq (zSet 5 (xIdx (xCall 4 (cl "_law_term") (xCons (xV 1) (xCons (xV 3) (xCons (xV 4) (xCons (xC (.int 3)) (xNil)))))) (xC (.int 0))))
    (zSeq (zFor (iR1 (xCons (xIdx (xLst (xCons (xC (.int 0)) (xCons (xC (.int 0)) (xCons (xC (.int 1)) (xCons (xC (.int 2)) (xNil)))))) (xCall 2 (cl "_law_take") (xCons (xV 1) (xCons (xC (.int 4)) (xNil))))) (xNil))) (gN 6) (zSet 5 (xCall 2 (cl "_law_bent") (xCons (xV 1) (xCons (xV 5) (xNil))))))
    (zSeq (zPar 7 8 (xCons (xBi .repr (xCons (xLst (xCons (xV 5) (xCons (xV 4) (xNil)))) (xNil))) (xCons (xCall 1 (cl "_law_is_term") (xCons (xV 5) (xNil))) (xNil))))
    (zFor (iR1 (xCons (xC (.int 2)) (xNil))) (gN 6) (zSeq (zIf (yOr (yNot (yV (xCall 2 (cl "_law_alike") (xCons (xCall 1 (cl "is_term") (xCons (xV 5) (xNil))) (xCons (xV 8) (xNil)))))) (yV (xBin neD (xBi .repr (xCons (xLst (xCons (xV 5) (xCons (xV 4) (xNil)))) (xNil))) (xV 7)))) (zRet (xC (.bl false))) (zNext))
    (zIf (yV (xV 8)) (zSeq (zAsg (gT2 11 12) (xCall 2 (cl "_law_looked") (xCons (xV 4) (xCons (xV 5) (xNil)))))
    (zSeq (zSet 9 (xHand (xCall 2 (cl "kind_of") (xCons (xV 4) (xCons (xV 5) (xNil)))) (rsOf ern sv_raised)))
    (zSeq (zSet 10 (xHand (xCall 2 (cl "places") (xCons (xV 4) (xCons (xV 5) (xNil)))) (rsOf ern sv_raised)))
    (zSeq (zIf (yV (xBin isD (xV 12) (xC .non))) (zIf (yNot (yV (xCall 2 (cl "_law_alike") (xCons (xLst (xCons (xV 9) (xCons (xV 10) (xNil)))) (xCons (xBin mulD (xLst (xCons (xTup (xCons (xC (.str "error")) (xCons (xLst (xCons (xC (.int 0)) (xNil))) (xCons (xLst (xCons (xV 11) (xNil))) (xNil))))) (xNil))) (xC (.int 2))) (xNil)))))) (zRet (xC (.bl false))) (zNext)) (zIf (yNot (yV (xCall 2 (cl "_law_alike") (xCons (xLst (xCons (xV 9) (xCons (xV 10) (xNil)))) (xCons (xLst (xCons (xTup (xCons (xC (.str "told")) (xCons (xV 11) (xNil)))) (xCons (xTup (xCons (xC (.str "told")) (xCons (xV 12) (xNil)))) (xNil)))) (xNil)))))) (zRet (xC (.bl false))) (zExpr (xM mApp (xIdx (xV 10) (xC (.int 1))) (xCons (xC (.str "more")) (xNil))))))
    (zIf (yV (xBin neD (xBi .repr (xCons (xLst (xCons (xV 5) (xCons (xV 4) (xNil)))) (xNil))) (xV 7))) (zRet (xC (.bl false))) (zNext)))))) (zNext))))))))))
    (zRet (xC (.bl true))))
noncomputable def fd_law : Fd := ⟨1, 13, b_law⟩
noncomputable def tab : Tab := fun x => if x = "is_name" then some fd_is_name else if x = "is_word" then some fd_is_word else if x = "is_kind" then some fd_is_kind else if x = "is_term" then some fd_is_term else if x = "looked" then some fd_looked else if x = "kind_of" then some fd_kind_of else if x = "places" then some fd_places else if x = "_law_bag" then some fd__law_bag else if x = "_law_take" then some fd__law_take else if x = "_law_alike" then some fd__law_alike else if x = "_law_one" then some fd__law_one else if x = "_law_names" then some fd__law_names else if x = "_law_kind" then some fd__law_kind else if x = "_law_any_kind" then some fd__law_any_kind else if x = "_law_size" then some fd__law_size else if x = "_law_odd_value" then some fd__law_odd_value else if x = "_law_term" then some fd__law_term else if x = "_law_signature" then some fd__law_signature else if x = "_law_looked" then some fd__law_looked else if x = "_law_is_name" then some fd__law_is_name else if x = "_law_is_kind" then some fd__law_is_kind else if x = "_law_is_term" then some fd__law_is_term else if x = "_law_bent" then some fd__law_bent else if x = "law" then some fd_law else none
theorem t_is_name : tab "is_name" = some fd_is_name := by unfold tab; rw [if_pos rfl]
theorem t_is_word : tab "is_word" = some fd_is_word := by unfold tab; rw [if_neg (by decide +kernel)]; rw [if_pos rfl]
theorem t_is_kind : tab "is_kind" = some fd_is_kind := by unfold tab; rw [if_neg (by decide +kernel)]; rw [if_neg (by decide +kernel)]; rw [if_pos rfl]
theorem t_is_term : tab "is_term" = some fd_is_term := by unfold tab; rw [if_neg (by decide +kernel)]; rw [if_neg (by decide +kernel)]; rw [if_neg (by decide +kernel)]; rw [if_pos rfl]
theorem t_looked : tab "looked" = some fd_looked := by unfold tab; rw [if_neg (by decide +kernel)]; rw [if_neg (by decide +kernel)]; rw [if_neg (by decide +kernel)]; rw [if_neg (by decide +kernel)]; rw [if_pos rfl]
theorem t_kind_of : tab "kind_of" = some fd_kind_of := by unfold tab; rw [if_neg (by decide +kernel)]; rw [if_neg (by decide +kernel)]; rw [if_neg (by decide +kernel)]; rw [if_neg (by decide +kernel)]; rw [if_neg (by decide +kernel)]; rw [if_pos rfl]
theorem t_places : tab "places" = some fd_places := by unfold tab; rw [if_neg (by decide +kernel)]; rw [if_neg (by decide +kernel)]; rw [if_neg (by decide +kernel)]; rw [if_neg (by decide +kernel)]; rw [if_neg (by decide +kernel)]; rw [if_neg (by decide +kernel)]; rw [if_pos rfl]
theorem t__law_bag : tab "_law_bag" = some fd__law_bag := by unfold tab; rw [if_neg (by decide +kernel)]; rw [if_neg (by decide +kernel)]; rw [if_neg (by decide +kernel)]; rw [if_neg (by decide +kernel)]; rw [if_neg (by decide +kernel)]; rw [if_neg (by decide +kernel)]; rw [if_neg (by decide +kernel)]; rw [if_pos rfl]
theorem t__law_take : tab "_law_take" = some fd__law_take := by unfold tab; rw [if_neg (by decide +kernel)]; rw [if_neg (by decide +kernel)]; rw [if_neg (by decide +kernel)]; rw [if_neg (by decide +kernel)]; rw [if_neg (by decide +kernel)]; rw [if_neg (by decide +kernel)]; rw [if_neg (by decide +kernel)]; rw [if_neg (by decide +kernel)]; rw [if_pos rfl]
theorem t__law_alike : tab "_law_alike" = some fd__law_alike := by unfold tab; rw [if_neg (by decide +kernel)]; rw [if_neg (by decide +kernel)]; rw [if_neg (by decide +kernel)]; rw [if_neg (by decide +kernel)]; rw [if_neg (by decide +kernel)]; rw [if_neg (by decide +kernel)]; rw [if_neg (by decide +kernel)]; rw [if_neg (by decide +kernel)]; rw [if_neg (by decide +kernel)]; rw [if_pos rfl]
theorem t__law_one : tab "_law_one" = some fd__law_one := by unfold tab; rw [if_neg (by decide +kernel)]; rw [if_neg (by decide +kernel)]; rw [if_neg (by decide +kernel)]; rw [if_neg (by decide +kernel)]; rw [if_neg (by decide +kernel)]; rw [if_neg (by decide +kernel)]; rw [if_neg (by decide +kernel)]; rw [if_neg (by decide +kernel)]; rw [if_neg (by decide +kernel)]; rw [if_neg (by decide +kernel)]; rw [if_pos rfl]
theorem t__law_names : tab "_law_names" = some fd__law_names := by unfold tab; rw [if_neg (by decide +kernel)]; rw [if_neg (by decide +kernel)]; rw [if_neg (by decide +kernel)]; rw [if_neg (by decide +kernel)]; rw [if_neg (by decide +kernel)]; rw [if_neg (by decide +kernel)]; rw [if_neg (by decide +kernel)]; rw [if_neg (by decide +kernel)]; rw [if_neg (by decide +kernel)]; rw [if_neg (by decide +kernel)]; rw [if_neg (by decide +kernel)]; rw [if_pos rfl]
theorem t__law_kind : tab "_law_kind" = some fd__law_kind := by unfold tab; rw [if_neg (by decide +kernel)]; rw [if_neg (by decide +kernel)]; rw [if_neg (by decide +kernel)]; rw [if_neg (by decide +kernel)]; rw [if_neg (by decide +kernel)]; rw [if_neg (by decide +kernel)]; rw [if_neg (by decide +kernel)]; rw [if_neg (by decide +kernel)]; rw [if_neg (by decide +kernel)]; rw [if_neg (by decide +kernel)]; rw [if_neg (by decide +kernel)]; rw [if_neg (by decide +kernel)]; rw [if_pos rfl]
theorem t__law_any_kind : tab "_law_any_kind" = some fd__law_any_kind := by unfold tab; rw [if_neg (by decide +kernel)]; rw [if_neg (by decide +kernel)]; rw [if_neg (by decide +kernel)]; rw [if_neg (by decide +kernel)]; rw [if_neg (by decide +kernel)]; rw [if_neg (by decide +kernel)]; rw [if_neg (by decide +kernel)]; rw [if_neg (by decide +kernel)]; rw [if_neg (by decide +kernel)]; rw [if_neg (by decide +kernel)]; rw [if_neg (by decide +kernel)]; rw [if_neg (by decide +kernel)]; rw [if_neg (by decide +kernel)]; rw [if_pos rfl]
theorem t__law_size : tab "_law_size" = some fd__law_size := by unfold tab; rw [if_neg (by decide +kernel)]; rw [if_neg (by decide +kernel)]; rw [if_neg (by decide +kernel)]; rw [if_neg (by decide +kernel)]; rw [if_neg (by decide +kernel)]; rw [if_neg (by decide +kernel)]; rw [if_neg (by decide +kernel)]; rw [if_neg (by decide +kernel)]; rw [if_neg (by decide +kernel)]; rw [if_neg (by decide +kernel)]; rw [if_neg (by decide +kernel)]; rw [if_neg (by decide +kernel)]; rw [if_neg (by decide +kernel)]; rw [if_neg (by decide +kernel)]; rw [if_pos rfl]
theorem t__law_odd_value : tab "_law_odd_value" = some fd__law_odd_value := by unfold tab; rw [if_neg (by decide +kernel)]; rw [if_neg (by decide +kernel)]; rw [if_neg (by decide +kernel)]; rw [if_neg (by decide +kernel)]; rw [if_neg (by decide +kernel)]; rw [if_neg (by decide +kernel)]; rw [if_neg (by decide +kernel)]; rw [if_neg (by decide +kernel)]; rw [if_neg (by decide +kernel)]; rw [if_neg (by decide +kernel)]; rw [if_neg (by decide +kernel)]; rw [if_neg (by decide +kernel)]; rw [if_neg (by decide +kernel)]; rw [if_neg (by decide +kernel)]; rw [if_neg (by decide +kernel)]; rw [if_pos rfl]
theorem t__law_term : tab "_law_term" = some fd__law_term := by unfold tab; rw [if_neg (by decide +kernel)]; rw [if_neg (by decide +kernel)]; rw [if_neg (by decide +kernel)]; rw [if_neg (by decide +kernel)]; rw [if_neg (by decide +kernel)]; rw [if_neg (by decide +kernel)]; rw [if_neg (by decide +kernel)]; rw [if_neg (by decide +kernel)]; rw [if_neg (by decide +kernel)]; rw [if_neg (by decide +kernel)]; rw [if_neg (by decide +kernel)]; rw [if_neg (by decide +kernel)]; rw [if_neg (by decide +kernel)]; rw [if_neg (by decide +kernel)]; rw [if_neg (by decide +kernel)]; rw [if_neg (by decide +kernel)]; rw [if_pos rfl]
theorem t__law_signature : tab "_law_signature" = some fd__law_signature := by unfold tab; rw [if_neg (by decide +kernel)]; rw [if_neg (by decide +kernel)]; rw [if_neg (by decide +kernel)]; rw [if_neg (by decide +kernel)]; rw [if_neg (by decide +kernel)]; rw [if_neg (by decide +kernel)]; rw [if_neg (by decide +kernel)]; rw [if_neg (by decide +kernel)]; rw [if_neg (by decide +kernel)]; rw [if_neg (by decide +kernel)]; rw [if_neg (by decide +kernel)]; rw [if_neg (by decide +kernel)]; rw [if_neg (by decide +kernel)]; rw [if_neg (by decide +kernel)]; rw [if_neg (by decide +kernel)]; rw [if_neg (by decide +kernel)]; rw [if_neg (by decide +kernel)]; rw [if_pos rfl]
theorem t__law_looked : tab "_law_looked" = some fd__law_looked := by unfold tab; rw [if_neg (by decide +kernel)]; rw [if_neg (by decide +kernel)]; rw [if_neg (by decide +kernel)]; rw [if_neg (by decide +kernel)]; rw [if_neg (by decide +kernel)]; rw [if_neg (by decide +kernel)]; rw [if_neg (by decide +kernel)]; rw [if_neg (by decide +kernel)]; rw [if_neg (by decide +kernel)]; rw [if_neg (by decide +kernel)]; rw [if_neg (by decide +kernel)]; rw [if_neg (by decide +kernel)]; rw [if_neg (by decide +kernel)]; rw [if_neg (by decide +kernel)]; rw [if_neg (by decide +kernel)]; rw [if_neg (by decide +kernel)]; rw [if_neg (by decide +kernel)]; rw [if_neg (by decide +kernel)]; rw [if_pos rfl]
theorem t__law_is_name : tab "_law_is_name" = some fd__law_is_name := by unfold tab; rw [if_neg (by decide +kernel)]; rw [if_neg (by decide +kernel)]; rw [if_neg (by decide +kernel)]; rw [if_neg (by decide +kernel)]; rw [if_neg (by decide +kernel)]; rw [if_neg (by decide +kernel)]; rw [if_neg (by decide +kernel)]; rw [if_neg (by decide +kernel)]; rw [if_neg (by decide +kernel)]; rw [if_neg (by decide +kernel)]; rw [if_neg (by decide +kernel)]; rw [if_neg (by decide +kernel)]; rw [if_neg (by decide +kernel)]; rw [if_neg (by decide +kernel)]; rw [if_neg (by decide +kernel)]; rw [if_neg (by decide +kernel)]; rw [if_neg (by decide +kernel)]; rw [if_neg (by decide +kernel)]; rw [if_neg (by decide +kernel)]; rw [if_pos rfl]
theorem t__law_is_kind : tab "_law_is_kind" = some fd__law_is_kind := by unfold tab; rw [if_neg (by decide +kernel)]; rw [if_neg (by decide +kernel)]; rw [if_neg (by decide +kernel)]; rw [if_neg (by decide +kernel)]; rw [if_neg (by decide +kernel)]; rw [if_neg (by decide +kernel)]; rw [if_neg (by decide +kernel)]; rw [if_neg (by decide +kernel)]; rw [if_neg (by decide +kernel)]; rw [if_neg (by decide +kernel)]; rw [if_neg (by decide +kernel)]; rw [if_neg (by decide +kernel)]; rw [if_neg (by decide +kernel)]; rw [if_neg (by decide +kernel)]; rw [if_neg (by decide +kernel)]; rw [if_neg (by decide +kernel)]; rw [if_neg (by decide +kernel)]; rw [if_neg (by decide +kernel)]; rw [if_neg (by decide +kernel)]; rw [if_neg (by decide +kernel)]; rw [if_pos rfl]
theorem t__law_is_term : tab "_law_is_term" = some fd__law_is_term := by unfold tab; rw [if_neg (by decide +kernel)]; rw [if_neg (by decide +kernel)]; rw [if_neg (by decide +kernel)]; rw [if_neg (by decide +kernel)]; rw [if_neg (by decide +kernel)]; rw [if_neg (by decide +kernel)]; rw [if_neg (by decide +kernel)]; rw [if_neg (by decide +kernel)]; rw [if_neg (by decide +kernel)]; rw [if_neg (by decide +kernel)]; rw [if_neg (by decide +kernel)]; rw [if_neg (by decide +kernel)]; rw [if_neg (by decide +kernel)]; rw [if_neg (by decide +kernel)]; rw [if_neg (by decide +kernel)]; rw [if_neg (by decide +kernel)]; rw [if_neg (by decide +kernel)]; rw [if_neg (by decide +kernel)]; rw [if_neg (by decide +kernel)]; rw [if_neg (by decide +kernel)]; rw [if_neg (by decide +kernel)]; rw [if_pos rfl]
theorem t__law_bent : tab "_law_bent" = some fd__law_bent := by unfold tab; rw [if_neg (by decide +kernel)]; rw [if_neg (by decide +kernel)]; rw [if_neg (by decide +kernel)]; rw [if_neg (by decide +kernel)]; rw [if_neg (by decide +kernel)]; rw [if_neg (by decide +kernel)]; rw [if_neg (by decide +kernel)]; rw [if_neg (by decide +kernel)]; rw [if_neg (by decide +kernel)]; rw [if_neg (by decide +kernel)]; rw [if_neg (by decide +kernel)]; rw [if_neg (by decide +kernel)]; rw [if_neg (by decide +kernel)]; rw [if_neg (by decide +kernel)]; rw [if_neg (by decide +kernel)]; rw [if_neg (by decide +kernel)]; rw [if_neg (by decide +kernel)]; rw [if_neg (by decide +kernel)]; rw [if_neg (by decide +kernel)]; rw [if_neg (by decide +kernel)]; rw [if_neg (by decide +kernel)]; rw [if_neg (by decide +kernel)]; rw [if_pos rfl]
theorem t_law : tab "law" = some fd_law := by unfold tab; rw [if_neg (by decide +kernel)]; rw [if_neg (by decide +kernel)]; rw [if_neg (by decide +kernel)]; rw [if_neg (by decide +kernel)]; rw [if_neg (by decide +kernel)]; rw [if_neg (by decide +kernel)]; rw [if_neg (by decide +kernel)]; rw [if_neg (by decide +kernel)]; rw [if_neg (by decide +kernel)]; rw [if_neg (by decide +kernel)]; rw [if_neg (by decide +kernel)]; rw [if_neg (by decide +kernel)]; rw [if_neg (by decide +kernel)]; rw [if_neg (by decide +kernel)]; rw [if_neg (by decide +kernel)]; rw [if_neg (by decide +kernel)]; rw [if_neg (by decide +kernel)]; rw [if_neg (by decide +kernel)]; rw [if_neg (by decide +kernel)]; rw [if_neg (by decide +kernel)]; rw [if_neg (by decide +kernel)]; rw [if_neg (by decide +kernel)]; rw [if_neg (by decide +kernel)]; rw [if_pos rfl]
end K90
namespace K90
open PySem PySem.Spec PyProof.Rows L2 Bx
def topS (i : Nat) : Stmt := PySem.Challenge.pw_unaskedways_k90_terms_and_places.main.body.getD i (.Pass ⟨0, 0, 0, 0⟩)
structure GF (P : Program) (wo : World) (g : Gx) : Prop where
  z_len : g.mg "len" = none
  z_list : g.mg "list" = none
  z_tuple : g.mg "tuple" = none
  z_sum : g.mg "sum" = none
  z_max : g.mg "max" = none
  z_min : g.mg "min" = none
  z_abs : g.mg "abs" = none
  z_int : g.mg "int" = none
  z_sorted : g.mg "sorted" = none
  z_repr : g.mg "repr" = none
  z_all : g.mg "all" = none
  z_any : g.mg "any" = none
  z_isinstance : g.mg "isinstance" = none
  z_range : g.mg "range" = none
  z_str : g.mg "str" = none
  c_LETTERS : ∃ t, g.mg "LETTERS" = some (.str "abcdefghijklmnopqrstuvwxyz" t)
  c_WIDTHS : KW g wo "WIDTHS" w_WIDTHS
  c_WORDS : KW g wo "WORDS" w_WORDS
  er : ErN g ern
  y_WayError : Er0 g "WayError"
  x_NoName : ErC P g "NoName"
  hd : ∃ f fdat, g.mg "_law_raised" = some (.ref f) ∧ Fun g.K "_law_raised" "_law_raised" (topS 29) f fdat
theorem GF.nb {P : Program} {wo : World} {g : Gx} (G : GF P wo g) : ∀ b : Bi, g.mg (biN b) = none
  | .len => G.z_len
  | .list => G.z_list
  | .nlist => G.z_list
  | .tuple => G.z_tuple
  | .sum => G.z_sum
  | .max => G.z_max
  | .min => G.z_min
  | .abs => G.z_abs
  | .int => G.z_int
  | .sorted => G.z_sorted
  | .nsorted => G.z_sorted
  | .repr => G.z_repr
  | .all => G.z_all
  | .any => G.z_any
  | .isi => G.z_isinstance
section
variable {P : Program} {wo : World} {g : Gx} {base : Heap} {k : Nat}
abbrev s__law_raised : Stmt := topS 29
theorem sc__law_raised : FnScope ["_law_act", "e", "_law_some", "_law_at"] ["_law_act"] (defScope s__law_raised) := ⟨rfl, rfl, rfl, by decide +kernel, rfl, by decide +kernel, by decide +kernel⟩
theorem sv_ok (av : Addr) (d : Option Addr) (c : Str) (ds : List D) (h : Hh) : suEnd 1 b_last (b_su av d c (suR 4 1 (.cau av d c ds)) h) = sv_raised c ds h := by
  unfold sv_raised b_su
  have e : ∀ a' d', suR 4 1 (.cau a' d' c ds) = [none, some (.cau a' d' c ds), none, none] := fun _ _ => rfl
  rw [e, e]
  have k1 : ∀ x, xM mCnt (xV 2) (xCons (xC (D.bl true)) xNil) [none, x, some (D.lst [D.bl true]), none] h = .ok (.int 1) h := fun _ => rfl
  have k2 : neD (.int 1) (.int 1) h = .ok (.bl false) h := rfl
  have k3 : ∀ x, xM mIdx (xV 2) (xCons (xC (D.bl true)) xNil) [none, x, some (D.lst [D.bl true]), none] h = .ok (.int 0) h := fun _ => rfl
  have k4 : eqD (.int 0) (.int 0) h = .ok (.bl true) h := rfl
  have k5 : ∀ b, isB (.bl b) h = .ok b h := fun _ => rfl
  cases subT c "NoName" with
  | false =>
    simp [zSeq, zSet, xLst, xCons, xNil, xIsC, xV, sz, sizeLine, SRes.of]
    rfl
  | true =>
    by_cases hn : fldOf c = "name" <;> rcases ds with _ | ⟨y, _ | ⟨z, r⟩⟩ <;> simp [zSeq, zSet, zIf, zRet, yV, xBin, xC, xTup, xLst, xCons, xNil, xIsC, xFldC, hn, xV, sz, sizeLine, SRes.of, k1, k2, k3, k4, k5]
theorem h_raised (G : GF P wo g) {X : Cx} {W : WX} {params : Arguments} {body : Expr} {scope : Scope} {p lpos pos : Pos} {fb : Fn} {c0 P0 : Addr} (xo : XO g X) (tk : Takes X W) (rm : RmH k X.A) (hg : Gl X "_law_raised") (L : LamX.LamS X.env.scope scope) (hdef : defaultsOf params X.env = ([], []))
    (hbind : ∀ (q : Str) (cl : List (Str × Addr)) (pm cv ctv : Value), bindArgs (PySem.W.kla_fn "<lambda>" q params body scope cl pm cv ctv) ⟨[], []⟩ = pure [])
    (hlam : ∀ (A : Around) (outer : List Env) (s : Shared) (H : Hp) (E : XK) (f c' : Addr), RmG k (A.deeper (LamX.lamEnv X scope s.heap.objs.size f c')) → PE (LamX.lamCx X A outer s H E scope f c') body (tI g (fun c d _ H => E c d H) fb))
    (TB : LamX.TabB X.base X.mg c0 P0) (hcode : X.env.code = .ref c0) (hT : g.T = [(P0, X.env.qual ++ "<lambda>")]) :
    PE X (.Call (.Name "_law_raised" p) [.Lambda params body scope lpos] [] pos) (tI g W (xHand fb (rsOf ern sv_raised))) := by
  obtain ⟨f, fdat, hm, F⟩ := G.hd
  obtain ⟨CW, hmw⟩ := way_mg G.er (by decide +kernel)
  exact q_hand (ns := ern) (i := 1) (su := b_su) (zl := b_last) (sv := sv_raised) xo tk rm hg F hm sc__law_raised rfl (.inl rfl) (F.binds (ps := ["_law_act"]) (fun _ _ _ _ _ _ us hl => match us, hl with | [_], _ => rfl)) rfl rfl (by decide) rfl rfl hmw G.er (by decide +kernel)
    (fun cdv s H E av oe C d pn c hz hf hm2 hc xp => have xps := XP.suite (a := av) (pn := (av, oe) :: pn) xp
      q_seq (w_setP xps rfl (.inl rfl) (q_lst (q_cons (u_isC xp G.er hc hm2 hz hf (by decide +kernel) (by rfl) G.z_isinstance (by rfl) (q_var (pv 1))) (q_nil))))
    (q_seq (q_if (q_tcmp (fun _ => (ne_ok xps)) (q_m (fun a b => pe_bm PySem.F.plainAttrs_list PySem.F.slot_list_count PySem.F.type_list_count (mt_cnt xps) a b) (q_var (pv 2)) (q_cons (q_bl) (q_nil)) (fun _ _ _ _ _ _ _ _ _ hr rv rvs q => rMe_of hr rv rvs q)) (q_int)) (q_sone (q_ret (q_tup (q_cons (q_str) (q_cons (q_lst (q_nil)) (q_cons (q_lst (q_nil)) (q_nil))))))) (q_snil))
    (q_seq (w_setP xps rfl (.inl rfl) (q_m (fun a b => pe_bm PySem.F.plainAttrs_list PySem.F.slot_list_index PySem.F.type_list_index mt_idx a b) (q_var (pv 2)) (q_cons (q_bl) (q_nil)) (fun _ _ _ _ _ _ _ _ _ hr rv rvs q => rMe_of hr rv rvs q)))
    (q_sone (q_if (q_tcmp (fun _ => (eq_ok xps)) (q_var (pv 3)) (q_int)) (q_sone (q_ret (q_tup (q_cons (q_str) (q_cons (q_lst (q_cons (q_int) (q_nil))) (q_cons (q_lst (q_cons (u_fldC xp G.er hc hm2 hz hf (q_var (pv 1))) (q_nil))) (q_nil))))))) (q_snil))))))
    (fun cdv s H E => q_ret (q_tup (q_cons (q_str) (q_cons (q_lst (q_nil)) (q_cons (q_lst (q_nil)) (q_nil)))))) (fun av d c ds h _ => sv_ok av d c ds h) L hdef hbind hlam TB hcode (by rw [hT]; exact List.mem_cons_self ..) (fun q hq _ => by rw [hT] at hq; simp at hq; rw [hq])
abbrev s_is_name : Stmt := topS 6
theorem sc_is_name : FnScope ["thing", "sign"] ["thing"] (defScope s_is_name) := ⟨rfl, rfl, rfl, by decide +kernel, rfl, by decide +kernel, by decide +kernel⟩
theorem p_is_name (G : GF P wo g) (DS : Defs P wo g base tab k) {f : Addr} (cdv : Value) (A : Around) (out : List Env) (s : Shared) (H : Hp) (E : XK) (hq : RmH k (A.deeper (envOfC "is_name" (defScope s_is_name) s.heap.objs.size f cdv))) :
    PSs (bx P wo g base ["thing", "sign"] "is_name" (defScope s_is_name) f cdv A out s H E) (defBody s_is_name) (tS g (fun c d _ H => E c d H) (b_is_name (callN tab k))) :=
  have hr := hq.toRmG
  have xo := bx_ok (P := P) (wo := wo) (g := g) (base := base) (out := out) (H := H) (E := E) sc_is_name hr
  have tk : Takes (bx P wo g base ["thing", "sign"] "is_name" (defScope s_is_name) f cdv A out s H E) (fun c d _ H => E c d H) := takes_of rfl rfl rfl rfl
  have po : PassesOwn (model P wo) (bx P wo g base ["thing", "sign"] "is_name" (defScope s_is_name) f cdv A out s H E).A (bx P wo g base ["thing", "sign"] "is_name" (defScope s_is_name) f cdv A out s H E).env (bx P wo g base ["thing", "sign"] "is_name" (defScope s_is_name) f cdv A out s H E).xe := passes_of rfl
  q_sone (q_ret (q_and (w_bi xo .isi G.nb (by rfl) rfl (q_cons (q_var (pv 0)) (q_cons (w_ty xo (by rfl) G.z_str) (q_nil)))) (q_and (w_chain (fun _ => (le_ok xo.toXP)) (fun _ => (le_ok xo.toXP)) (q_int) (w_bi xo .len G.nb (by rfl) rfl (q_cons (q_var (pv 0)) (q_nil))) (q_int)) (q_one (w_bi xo .all G.nb (by rfl) rfl (q_cons (w_lc (fun _ => hands_frz) (own := [("sign", 1)]) xo (blkOk_by (N := ["thing", "sign"]) (sc := defScope s_is_name) (by decide +kernel)) (q_it (q_var (pv 0))) (fun _ _ _ _ _ => q_gn (pg_name (i := 1) (XO.blk (xo)).nd rfl (.inl rfl))) (fun _ _ _ _ _ => q_pts0) (fun _ _ _ _ _ => q_cmp (fun _ => (in_ok (XO.blk (xo)))) (q_var (pv 1)) (w_gstr (XO.blk (xo)) (by rfl) G.c_LETTERS))) (q_nil)))))))
abbrev s_is_word : Stmt := topS 7
theorem sc_is_word : FnScope ["thing"] ["thing"] (defScope s_is_word) := ⟨rfl, rfl, rfl, by decide +kernel, rfl, by decide +kernel, by decide +kernel⟩
theorem p_is_word (G : GF P wo g) (DS : Defs P wo g base tab k) {f : Addr} (cdv : Value) (A : Around) (out : List Env) (s : Shared) (H : Hp) (E : XK) (hq : RmH k (A.deeper (envOfC "is_word" (defScope s_is_word) s.heap.objs.size f cdv))) :
    PSs (bx P wo g base ["thing"] "is_word" (defScope s_is_word) f cdv A out s H E) (defBody s_is_word) (tS g (fun c d _ H => E c d H) (b_is_word (callN tab k))) :=
  have hr := hq.toRmG
  have xo := bx_ok (P := P) (wo := wo) (g := g) (base := base) (out := out) (H := H) (E := E) sc_is_word hr
  have tk : Takes (bx P wo g base ["thing"] "is_word" (defScope s_is_word) f cdv A out s H E) (fun c d _ H => E c d H) := takes_of rfl rfl rfl rfl
  have po : PassesOwn (model P wo) (bx P wo g base ["thing"] "is_word" (defScope s_is_word) f cdv A out s H E).A (bx P wo g base ["thing"] "is_word" (defScope s_is_word) f cdv A out s H E).env (bx P wo g base ["thing"] "is_word" (defScope s_is_word) f cdv A out s H E).xe := passes_of rfl
  q_sone (q_ret (q_and (w_bi xo .isi G.nb (by rfl) rfl (q_cons (q_var (pv 0)) (q_cons (w_ty xo (by rfl) G.z_str) (q_nil)))) (q_one (q_inW xo rfl G.c_WIDTHS (by rfl) (q_var (pv 0))))))
abbrev s_is_kind : Stmt := topS 8
theorem sc_is_kind : FnScope ["thing", "part"] ["thing"] (defScope s_is_kind) := ⟨rfl, rfl, rfl, by decide +kernel, rfl, by decide +kernel, by decide +kernel⟩
theorem p_is_kind (G : GF P wo g) (DS : Defs P wo g base tab k) {f : Addr} (cdv : Value) (A : Around) (out : List Env) (s : Shared) (H : Hp) (E : XK) (hq : RmH k (A.deeper (envOfC "is_kind" (defScope s_is_kind) s.heap.objs.size f cdv))) :
    PSs (bx P wo g base ["thing", "part"] "is_kind" (defScope s_is_kind) f cdv A out s H E) (defBody s_is_kind) (tS g (fun c d _ H => E c d H) (b_is_kind (callN tab k))) :=
  have hr := hq.toRmG
  have xo := bx_ok (P := P) (wo := wo) (g := g) (base := base) (out := out) (H := H) (E := E) sc_is_kind hr
  have tk : Takes (bx P wo g base ["thing", "part"] "is_kind" (defScope s_is_kind) f cdv A out s H E) (fun c d _ H => E c d H) := takes_of rfl rfl rfl rfl
  have po : PassesOwn (model P wo) (bx P wo g base ["thing", "part"] "is_kind" (defScope s_is_kind) f cdv A out s H E).A (bx P wo g base ["thing", "part"] "is_kind" (defScope s_is_kind) f cdv A out s H E).env (bx P wo g base ["thing", "part"] "is_kind" (defScope s_is_kind) f cdv A out s H E).xe := passes_of rfl
  q_seq (q_if (q_tv (w_bi xo .isi G.nb (by rfl) rfl (q_cons (q_var (pv 0)) (q_cons (w_ty xo (by rfl) G.z_str) (q_nil))))) (q_sone (q_ret (q_call xo rfl rfl rfl DS t_is_name hr tk (by rfl) (q_cons (q_var (pv 0)) (q_nil))))) (q_snil))
    (q_seq (q_if (PW.pt (q_tor (q_tnot (q_tv (w_bi xo .isi G.nb (by rfl) rfl (q_cons (q_var (pv 0)) (q_cons (w_ty xo (by rfl) G.z_tuple) (q_nil)))))) (q_tor (q_tcmp (fun _ => (lt_ok xo.toXP)) (w_bi xo .len G.nb (by rfl) rfl (q_cons (q_var (pv 0)) (q_nil))) (q_int)) (q_tor (q_tnot (q_tv (q_call xo rfl rfl rfl DS t_is_word hr tk (by rfl) (q_cons (q_idx xo (q_var (pv 0)) (q_int)) (q_nil))))) (pw_or1 (q_tcmp (fun _ => (ne_ok xo.toXP)) (w_bi xo .len G.nb (by rfl) rfl (q_cons (q_var (pv 0)) (q_nil))) (q_bin (fun _ => add_ok) (q_idxW xo rfl G.c_WIDTHS (by rfl) (q_idx xo (q_var (pv 0)) (q_int))) (q_int)))))))) (q_sone (q_ret (q_bl))) (q_snil))
    (q_sone (q_ret (w_bi xo .all G.nb (by rfl) rfl (q_cons (w_lc (fun _ => hands_frz) (own := [("part", 1)]) xo (blkOk_by (N := ["thing", "part"]) (sc := defScope s_is_kind) (by decide +kernel)) (q_it (q_slc xo (q_var (pv 0)) (q_some (q_int)) (q_no))) (fun _ _ _ _ _ => q_gn (pg_name (i := 1) (XO.blk (xo)).nd rfl (.inl rfl))) (fun _ _ _ _ _ => q_pts0) (fun _ _ _ _ _ => q_call (XO.blk (xo)) rfl rfl rfl DS t_is_kind hr takes0 (by rfl) (q_cons (q_var (pv 1)) (q_nil)))) (q_nil))))))
abbrev s_is_term : Stmt := topS 11
theorem sc_is_term : FnScope ["thing", "part"] ["thing"] (defScope s_is_term) := ⟨rfl, rfl, rfl, by decide +kernel, rfl, by decide +kernel, by decide +kernel⟩
theorem p_is_term (G : GF P wo g) (DS : Defs P wo g base tab k) {f : Addr} (cdv : Value) (A : Around) (out : List Env) (s : Shared) (H : Hp) (E : XK) (hq : RmH k (A.deeper (envOfC "is_term" (defScope s_is_term) s.heap.objs.size f cdv))) :
    PSs (bx P wo g base ["thing", "part"] "is_term" (defScope s_is_term) f cdv A out s H E) (defBody s_is_term) (tS g (fun c d _ H => E c d H) (b_is_term (callN tab k))) :=
  have hr := hq.toRmG
  have xo := bx_ok (P := P) (wo := wo) (g := g) (base := base) (out := out) (H := H) (E := E) sc_is_term hr
  have tk : Takes (bx P wo g base ["thing", "part"] "is_term" (defScope s_is_term) f cdv A out s H E) (fun c d _ H => E c d H) := takes_of rfl rfl rfl rfl
  have po : PassesOwn (model P wo) (bx P wo g base ["thing", "part"] "is_term" (defScope s_is_term) f cdv A out s H E).A (bx P wo g base ["thing", "part"] "is_term" (defScope s_is_term) f cdv A out s H E).env (bx P wo g base ["thing", "part"] "is_term" (defScope s_is_term) f cdv A out s H E).xe := passes_of rfl
  q_seq (q_if (PW.pt (q_tor (q_tnot (q_tv (w_bi xo .isi G.nb (by rfl) rfl (q_cons (q_var (pv 0)) (q_cons (w_ty xo (by rfl) G.z_tuple) (q_nil)))))) (q_tor (q_tcmp (fun _ => (lt_ok xo.toXP)) (w_bi xo .len G.nb (by rfl) rfl (q_cons (q_var (pv 0)) (q_nil))) (q_int)) (q_tor (q_tnot (q_tv (w_bi xo .isi G.nb (by rfl) rfl (q_cons (q_idx xo (q_var (pv 0)) (q_int)) (q_cons (w_ty xo (by rfl) G.z_str) (q_nil)))))) (pw_or1 (q_tninW xo rfl G.c_WORDS (by rfl) (q_idx xo (q_var (pv 0)) (q_int)))))))) (q_sone (q_ret (q_bl))) (q_snil))
    (q_seq (q_if (q_tcmp (fun _ => (ne_ok xo.toXP)) (w_bi xo .len G.nb (by rfl) rfl (q_cons (q_var (pv 0)) (q_nil))) (q_bin (fun _ => add_ok) (q_idxW xo rfl G.c_WORDS (by rfl) (q_idx xo (q_var (pv 0)) (q_int))) (q_int))) (q_sone (q_ret (q_bl))) (q_snil))
    (q_seq (q_if (q_tcmp (fun _ => (eq_ok xo.toXP)) (q_idx xo (q_var (pv 0)) (q_int)) (q_str)) (q_sone (q_ret (q_call xo rfl rfl rfl DS t_is_name hr tk (by rfl) (q_cons (q_idx xo (q_var (pv 0)) (q_int)) (q_nil))))) (q_snil))
    (q_seq (q_if (q_tcmp (fun _ => (eq_ok xo.toXP)) (q_idx xo (q_var (pv 0)) (q_int)) (q_str)) (q_sone (q_ret (q_and (q_call xo rfl rfl rfl DS t_is_kind hr tk (by rfl) (q_cons (q_idx xo (q_var (pv 0)) (q_int)) (q_nil))) (q_and (w_bi xo .isi G.nb (by rfl) rfl (q_cons (q_idx xo (q_var (pv 0)) (q_int)) (q_cons (w_ty xo (by rfl) G.z_tuple) (q_nil)))) (q_one (w_bi xo .all G.nb (by rfl) rfl (q_cons (w_lc (fun _ => hands_frz) (own := [("part", 1)]) xo (blkOk_by (N := ["thing", "part"]) (sc := defScope s_is_term) (by decide +kernel)) (q_it (q_idx xo (q_var (pv 0)) (q_int))) (fun _ _ _ _ _ => q_gn (pg_name (i := 1) (XO.blk (xo)).nd rfl (.inl rfl))) (fun _ _ _ _ _ => q_pts0) (fun _ _ _ _ _ => q_call (XO.blk (xo)) rfl rfl rfl DS t_is_term hr takes0 (by rfl) (q_cons (q_var (pv 1)) (q_nil)))) (q_nil)))))))) (q_snil))
    (q_seq (q_if (q_tcmp (fun _ => (eq_ok xo.toXP)) (q_idx xo (q_var (pv 0)) (q_int)) (q_str)) (q_sone (q_ret (q_and (q_call xo rfl rfl rfl DS t_is_name hr tk (by rfl) (q_cons (q_idx xo (q_var (pv 0)) (q_int)) (q_nil))) (q_one (q_call xo rfl rfl rfl DS t_is_term hr tk (by rfl) (q_cons (q_idx xo (q_var (pv 0)) (q_int)) (q_nil))))))) (q_snil))
    (q_sone (q_ret (q_and (q_call xo rfl rfl rfl DS t_is_term hr tk (by rfl) (q_cons (q_idx xo (q_var (pv 0)) (q_int)) (q_nil))) (q_one (q_ife (q_tcmp (fun _ => (eq_ok xo.toXP)) (q_idx xo (q_var (pv 0)) (q_int)) (q_str)) (q_call xo rfl rfl rfl DS t_is_term hr tk (by rfl) (q_cons (q_idx xo (q_var (pv 0)) (q_int)) (q_nil))) (q_call xo rfl rfl rfl DS t_is_kind hr tk (by rfl) (q_cons (q_idx xo (q_var (pv 0)) (q_int)) (q_nil))))))))))))
abbrev s_looked : Stmt := topS 12
theorem sc_looked : FnScope ["signature", "term", "found", "part", "first", "kind"] ["signature", "term", "found"] (defScope s_looked) := ⟨rfl, rfl, rfl, by decide +kernel, rfl, by decide +kernel, by decide +kernel⟩
theorem p_looked (G : GF P wo g) (DS : Defs P wo g base tab k) {f : Addr} (cdv : Value) (A : Around) (out : List Env) (s : Shared) (H : Hp) (E : XK) (hq : RmH k (A.deeper (envOfC "looked" (defScope s_looked) s.heap.objs.size f cdv))) :
    PSs (bx P wo g base ["signature", "term", "found", "part", "first", "kind"] "looked" (defScope s_looked) f cdv A out s H E) (defBody s_looked) (tS g (fun c d _ H => E c d H) (b_looked (callN tab k))) :=
  have hr := hq.toRmG
  have xo := bx_ok (P := P) (wo := wo) (g := g) (base := base) (out := out) (H := H) (E := E) sc_looked hr
  have tk : Takes (bx P wo g base ["signature", "term", "found", "part", "first", "kind"] "looked" (defScope s_looked) f cdv A out s H E) (fun c d _ H => E c d H) := takes_of rfl rfl rfl rfl
  have po : PassesOwn (model P wo) (bx P wo g base ["signature", "term", "found", "part", "first", "kind"] "looked" (defScope s_looked) f cdv A out s H E).A (bx P wo g base ["signature", "term", "found", "part", "first", "kind"] "looked" (defScope s_looked) f cdv A out s H E).env (bx P wo g base ["signature", "term", "found", "part", "first", "kind"] "looked" (defScope s_looked) f cdv A out s H E).xe := passes_of rfl
  q_seq (q_if (q_tcmp (fun _ => (eq_ok xo.toXP)) (q_idx xo (q_var (pv 1)) (q_int)) (q_str)) (q_seq (q_if (q_tcmp (fun _ => (nin_ok xo)) (q_idx xo (q_var (pv 1)) (q_int)) (q_var (pv 0))) (q_sone (v_raise xo rfl tk G.x_NoName hr (by rfl) (q_cons (q_idx xo (q_var (pv 1)) (q_int)) (q_nil)))) (q_snil))
    (q_sone (q_ret (q_idx xo (q_var (pv 0)) (q_idx xo (q_var (pv 1)) (q_int)))))) (q_snil))
    (q_seq (q_if (q_tcmp (fun _ => (eq_ok xo.toXP)) (q_idx xo (q_var (pv 1)) (q_int)) (q_str)) (q_seq (w_set xo rfl (.inl rfl) (q_call xo rfl rfl rfl DS t_looked hr tk (by rfl) (q_cons (q_var (pv 0)) (q_cons (q_idx xo (q_var (pv 1)) (q_int)) (q_cons (q_var (pv 2)) (q_nil))))))
    (q_sone (q_ret (q_tup (q_cons (q_str) (q_cons (q_var (pv 4)) (q_cons (q_call xo rfl rfl rfl DS t_looked hr tk (by rfl) (q_cons (q_var (pv 0)) (q_cons (q_idx xo (q_var (pv 1)) (q_int)) (q_cons (q_var (pv 2)) (q_nil))))) (q_nil)))))))) (q_snil))
    (q_seq (q_if (q_tcmp (fun _ => (eq_ok xo.toXP)) (q_idx xo (q_var (pv 1)) (q_int)) (q_str)) (q_seq (w_set xo rfl (.inl rfl) (q_get2 xo.toXP (q_var (pv 0)) (q_idx xo (q_var (pv 1)) (q_int)) (q_str) ⟨rfl, rfl, rfl, rfl⟩))
    (q_seq (q_if (PW.pt (q_tor (q_tnot (q_tv (w_bi xo .isi G.nb (by rfl) rfl (q_cons (q_var (pv 5)) (q_cons (w_ty xo (by rfl) G.z_tuple) (q_nil)))))) (pw_or1 (q_tcmp (fun _ => (ne_ok xo.toXP)) (q_idx xo (q_var (pv 5)) (q_int)) (q_str))))) (q_sone (v_raise xo rfl tk G.x_NoName hr (by rfl) (q_cons (q_idx xo (q_var (pv 1)) (q_int)) (q_nil)))) (q_snil))
    (q_seq (w_expr (q_m (fun a b => pe_bm PySem.F.plainAttrs_list PySem.F.slot_list_append PySem.F.type_list_append mt_append a b) (q_var (pv 2)) (q_cons (q_tup (q_cons (q_call xo rfl rfl rfl DS t_looked hr tk (by rfl) (q_cons (q_var (pv 0)) (q_cons (q_idx xo (q_var (pv 1)) (q_int)) (q_cons (q_var (pv 2)) (q_nil))))) (q_cons (q_idx xo (q_var (pv 5)) (q_int)) (q_nil)))) (q_nil)) (fun _ _ _ _ _ _ _ _ _ hr rv rvs q => app_r hr rv rvs q)))
    (q_sone (q_ret (q_idx xo (q_var (pv 5)) (q_int))))))) (q_snil))
    (q_seq (q_if (q_tcmp (fun _ => (eq_ok xo.toXP)) (q_idx xo (q_var (pv 1)) (q_int)) (q_str)) (q_seq (w_expr (q_m (fun a b => pe_bm PySem.F.plainAttrs_list PySem.F.slot_list_append PySem.F.type_list_append mt_append a b) (q_var (pv 2)) (q_cons (q_tup (q_cons (q_call xo rfl rfl rfl DS t_looked hr tk (by rfl) (q_cons (q_var (pv 0)) (q_cons (q_idx xo (q_var (pv 1)) (q_int)) (q_cons (q_var (pv 2)) (q_nil))))) (q_cons (q_idx xo (q_var (pv 1)) (q_int)) (q_nil)))) (q_nil)) (fun _ _ _ _ _ _ _ _ _ hr rv rvs q => app_r hr rv rvs q)))
    (q_sone (q_ret (q_idx xo (q_var (pv 1)) (q_int))))) (q_snil))
    (q_seq (w_for xo po (q_it (q_idx xo (q_var (pv 1)) (q_int))) (q_gn (pg_name (i := 3) xo.nd rfl (.inl rfl))) (q_sone (w_expr (q_m (fun a b => pe_bm PySem.F.plainAttrs_list PySem.F.slot_list_append PySem.F.type_list_append mt_append a b) (q_var (pv 2)) (q_cons (q_tup (q_cons (q_call xo rfl rfl rfl DS t_looked hr tk (by rfl) (q_cons (q_var (pv 0)) (q_cons (q_var (pv 3)) (q_cons (q_var (pv 2)) (q_nil))))) (q_cons (q_idx xo (q_var (pv 1)) (q_int)) (q_nil)))) (q_nil)) (fun _ _ _ _ _ _ _ _ _ hr rv rvs q => app_r hr rv rvs q)))))
    (q_sone (q_ret (q_tup (q_cons (q_str) (q_cons (q_idx xo (q_var (pv 1)) (q_int)) (q_nil))))))))))
abbrev s_kind_of : Stmt := topS 13
theorem sc_kind_of : FnScope ["signature", "term"] ["signature", "term"] (defScope s_kind_of) := ⟨rfl, rfl, rfl, by decide +kernel, rfl, by decide +kernel, by decide +kernel⟩
theorem p_kind_of (G : GF P wo g) (DS : Defs P wo g base tab k) {f : Addr} (cdv : Value) (A : Around) (out : List Env) (s : Shared) (H : Hp) (E : XK) (hq : RmH k (A.deeper (envOfC "kind_of" (defScope s_kind_of) s.heap.objs.size f cdv))) :
    PSs (bx P wo g base ["signature", "term"] "kind_of" (defScope s_kind_of) f cdv A out s H E) (defBody s_kind_of) (tS g (fun c d _ H => E c d H) (b_kind_of (callN tab k))) :=
  have hr := hq.toRmG
  have xo := bx_ok (P := P) (wo := wo) (g := g) (base := base) (out := out) (H := H) (E := E) sc_kind_of hr
  have tk : Takes (bx P wo g base ["signature", "term"] "kind_of" (defScope s_kind_of) f cdv A out s H E) (fun c d _ H => E c d H) := takes_of rfl rfl rfl rfl
  have po : PassesOwn (model P wo) (bx P wo g base ["signature", "term"] "kind_of" (defScope s_kind_of) f cdv A out s H E).A (bx P wo g base ["signature", "term"] "kind_of" (defScope s_kind_of) f cdv A out s H E).env (bx P wo g base ["signature", "term"] "kind_of" (defScope s_kind_of) f cdv A out s H E).xe := passes_of rfl
  q_sone (q_ret (q_call xo rfl rfl rfl DS t_looked hr tk (by rfl) (q_cons (q_var (pv 0)) (q_cons (q_var (pv 1)) (q_cons (q_nlst (q_nil)) (q_nil))))))
abbrev s_places : Stmt := topS 14
theorem sc_places : FnScope ["signature", "term", "found"] ["signature", "term"] (defScope s_places) := ⟨rfl, rfl, rfl, by decide +kernel, rfl, by decide +kernel, by decide +kernel⟩
theorem p_places (G : GF P wo g) (DS : Defs P wo g base tab k) {f : Addr} (cdv : Value) (A : Around) (out : List Env) (s : Shared) (H : Hp) (E : XK) (hq : RmH k (A.deeper (envOfC "places" (defScope s_places) s.heap.objs.size f cdv))) :
    PSs (bx P wo g base ["signature", "term", "found"] "places" (defScope s_places) f cdv A out s H E) (defBody s_places) (tS g (fun c d _ H => E c d H) (b_places (callN tab k))) :=
  have hr := hq.toRmG
  have xo := bx_ok (P := P) (wo := wo) (g := g) (base := base) (out := out) (H := H) (E := E) sc_places hr
  have tk : Takes (bx P wo g base ["signature", "term", "found"] "places" (defScope s_places) f cdv A out s H E) (fun c d _ H => E c d H) := takes_of rfl rfl rfl rfl
  have po : PassesOwn (model P wo) (bx P wo g base ["signature", "term", "found"] "places" (defScope s_places) f cdv A out s H E).A (bx P wo g base ["signature", "term", "found"] "places" (defScope s_places) f cdv A out s H E).env (bx P wo g base ["signature", "term", "found"] "places" (defScope s_places) f cdv A out s H E).xe := passes_of rfl
  q_seq (w_set xo rfl (.inl rfl) (q_nlst (q_nil)))
    (q_seq (w_expr (q_call xo rfl rfl rfl DS t_looked hr tk (by rfl) (q_cons (q_var (pv 0)) (q_cons (q_var (pv 1)) (q_cons (q_var (pv 2)) (q_nil))))))
    (q_sone (q_ret (q_var (pv 2)))))
abbrev s__law_bag : Stmt := topS 16
theorem sc__law_bag : FnScope ["_law_script", "_law_cell"] ["_law_script"] (defScope s__law_bag) := ⟨rfl, rfl, rfl, by decide +kernel, rfl, by decide +kernel, by decide +kernel⟩
theorem p__law_bag (G : GF P wo g) (DS : Defs P wo g base tab k) {f : Addr} (cdv : Value) (A : Around) (out : List Env) (s : Shared) (H : Hp) (E : XK) (hq : RmH k (A.deeper (envOfC "_law_bag" (defScope s__law_bag) s.heap.objs.size f cdv))) :
    PSs (bx P wo g base ["_law_script", "_law_cell"] "_law_bag" (defScope s__law_bag) f cdv A out s H E) (defBody s__law_bag) (tS g (fun c d _ H => E c d H) (b__law_bag (callN tab k))) :=
  have hr := hq.toRmG
  have xo := bx_ok (P := P) (wo := wo) (g := g) (base := base) (out := out) (H := H) (E := E) sc__law_bag hr
  have tk : Takes (bx P wo g base ["_law_script", "_law_cell"] "_law_bag" (defScope s__law_bag) f cdv A out s H E) (fun c d _ H => E c d H) := takes_of rfl rfl rfl rfl
  have po : PassesOwn (model P wo) (bx P wo g base ["_law_script", "_law_cell"] "_law_bag" (defScope s__law_bag) f cdv A out s H E).A (bx P wo g base ["_law_script", "_law_cell"] "_law_bag" (defScope s__law_bag) f cdv A out s H E).env (bx P wo g base ["_law_script", "_law_cell"] "_law_bag" (defScope s__law_bag) f cdv A out s H E).xe := passes_of rfl
  q_sone (q_ret (q_nlst (q_cons (q_int) (q_cons (q_int) (q_cons (q_int) (q_cons (w_lc (fun _ => hands_frz) (own := [("_law_cell", 1)]) xo (blkOk_by (N := ["_law_script", "_law_cell"]) (sc := defScope s__law_bag) (by decide +kernel)) (q_it (q_slc xo (q_var (pv 0)) (q_no) (q_some (q_int)))) (fun _ _ _ _ _ => q_gn (pg_name (i := 1) (XO.blk (xo)).nd rfl (.inl rfl))) (fun _ _ _ _ _ => q_pts0) (fun _ _ _ _ _ => w_bi (XO.blk (xo)) .abs G.nb (by rfl) rfl (q_cons (q_var (pv 1)) (q_nil)))) (q_nil)))))))
abbrev s__law_take : Stmt := topS 17
theorem sc__law_take : FnScope ["_law_bag_here", "_law_many", "_law_begin", "_law_second", "_law_cell", "_law_mixed", "_law_value"] ["_law_bag_here", "_law_many"] (defScope s__law_take) := ⟨rfl, rfl, rfl, by decide +kernel, rfl, by decide +kernel, by decide +kernel⟩
theorem p__law_take (G : GF P wo g) (DS : Defs P wo g base tab k) {f : Addr} (cdv : Value) (A : Around) (out : List Env) (s : Shared) (H : Hp) (E : XK) (hq : RmH k (A.deeper (envOfC "_law_take" (defScope s__law_take) s.heap.objs.size f cdv))) :
    PSs (bx P wo g base ["_law_bag_here", "_law_many", "_law_begin", "_law_second", "_law_cell", "_law_mixed", "_law_value"] "_law_take" (defScope s__law_take) f cdv A out s H E) (defBody s__law_take) (tS g (fun c d _ H => E c d H) (b__law_take (callN tab k))) :=
  have hr := hq.toRmG
  have xo := bx_ok (P := P) (wo := wo) (g := g) (base := base) (out := out) (H := H) (E := E) sc__law_take hr
  have tk : Takes (bx P wo g base ["_law_bag_here", "_law_many", "_law_begin", "_law_second", "_law_cell", "_law_mixed", "_law_value"] "_law_take" (defScope s__law_take) f cdv A out s H E) (fun c d _ H => E c d H) := takes_of rfl rfl rfl rfl
  have po : PassesOwn (model P wo) (bx P wo g base ["_law_bag_here", "_law_many", "_law_begin", "_law_second", "_law_cell", "_law_mixed", "_law_value"] "_law_take" (defScope s__law_take) f cdv A out s H E).A (bx P wo g base ["_law_bag_here", "_law_many", "_law_begin", "_law_second", "_law_cell", "_law_mixed", "_law_value"] "_law_take" (defScope s__law_take) f cdv A out s H E).env (bx P wo g base ["_law_bag_here", "_law_many", "_law_begin", "_law_second", "_law_cell", "_law_mixed", "_law_value"] "_law_take" (defScope s__law_take) f cdv A out s H E).xe := passes_of rfl
  q_seq (q_if (q_tcmp (fun _ => (eq_ok xo.toXP)) (q_idx xo (q_var (pv 0)) (q_int)) (q_int)) (q_seq (w_set xo rfl (.inl rfl) (q_int))
    (q_seq (q_if (q_tcmp (fun _ => (lt_ok xo.toXP)) (q_idx xo (q_var (pv 0)) (q_int)) (w_bi xo .len G.nb (by rfl) rfl (q_cons (q_idx xo (q_var (pv 0)) (q_int)) (q_nil)))) (q_sone (w_set xo rfl (.inl rfl) (q_idx xo (q_idx xo (q_var (pv 0)) (q_int)) (q_idx xo (q_var (pv 0)) (q_int))))) (q_snil))
    (q_seq (w_augix (q_var (pv 0)) (q_int) (q_int))
    (q_seq (q_if (q_tcmp (fun _ => (ge_ok xo.toXP)) (q_var (pv 4)) (q_int)) (q_sone (w_setix (q_var (pv 4)) (q_var (pv 0)) (q_int))) (q_snil))
    (q_seq (w_set xo rfl (.inl rfl) (q_bin (fun _ => add_ok) (q_bin (fun _ => add_ok) (q_bin (fun _ => mul_ok) (q_idx xo (q_var (pv 0)) (q_int)) (q_int)) (q_bin (fun _ => mod_ok) (w_bi xo .int G.nb (by rfl) rfl (q_cons (q_var (pv 4)) (q_nil))) (q_int))) (q_bin (fun _ => mul_ok) (q_int) (q_idx xo (q_var (pv 0)) (q_int)))))
    (q_sone (w_setix (q_bin (fun _ => mod_ok) (w_bi xo .int G.nb (by rfl) rfl (q_cons (q_var (pv 5)) (q_nil))) (q_int)) (q_var (pv 0)) (q_int)))))))) (q_snil))
    (q_seq (q_if (q_tcmp (fun _ => (gt_ok xo.toXP)) (q_idx xo (q_var (pv 0)) (q_int)) (q_int)) (q_seq (w_set xo rfl (.inl rfl) (q_bin (fun _ => mod_ok) (w_bi xo .int G.nb (by rfl) rfl (q_cons (q_idx xo (q_var (pv 0)) (q_int)) (q_nil))) (q_var (pv 1))))
    (q_seq (w_setix (q_bin (fun _ => fdiv_ok) (q_idx xo (q_var (pv 0)) (q_int)) (q_var (pv 1))) (q_var (pv 0)) (q_int))
    (q_sone (q_ret (q_var (pv 6)))))) (q_snil))
    (q_seq (w_set xo rfl (.inl rfl) (q_bin (fun _ => mod_ok) (w_bi xo .int G.nb (by rfl) rfl (q_cons (q_bin (fun _ => mul_ok) (q_bin (fun _ => add_ok) (q_idx xo (q_var (pv 0)) (q_int)) (q_int)) (q_int)) (q_nil))) (q_int)))
    (q_seq (w_set xo rfl (.inl rfl) (q_bin (fun _ => mod_ok) (w_bi xo .int G.nb (by rfl) rfl (q_cons (q_bin (fun _ => mul_ok) (q_bin (fun _ => mod_ok) (w_bi xo .int G.nb (by rfl) rfl (q_cons (q_bin (fun _ => mul_ok) (q_var (pv 2)) (q_var (pv 2))) (q_nil))) (q_int)) (q_int)) (q_nil))) (q_int)))
    (q_seq (q_if (q_tcmp (fun _ => (gt_ok xo.toXP)) (q_var (pv 1)) (q_int)) (q_sone (q_ret (q_bin (fun _ => mod_ok) (w_bi xo .int G.nb (by rfl) rfl (q_cons (q_bin (fun _ => add_ok) (q_bin (fun _ => mul_ok) (q_var (pv 3)) (q_int)) (q_var (pv 2))) (q_nil))) (q_var (pv 1))))) (q_snil))
    (q_sone (q_ret (q_bin (fun _ => mod_ok) (w_bi xo .int G.nb (by rfl) rfl (q_cons (q_bin (fun _ => fdiv_ok) (q_var (pv 3)) (q_int)) (q_nil))) (q_var (pv 1)))))))))
abbrev s__law_alike : Stmt := topS 18
theorem sc__law_alike : FnScope ["_law_found", "_law_due"] ["_law_found", "_law_due"] (defScope s__law_alike) := ⟨rfl, rfl, rfl, by decide +kernel, rfl, by decide +kernel, by decide +kernel⟩
theorem p__law_alike (G : GF P wo g) (DS : Defs P wo g base tab k) {f : Addr} (cdv : Value) (A : Around) (out : List Env) (s : Shared) (H : Hp) (E : XK) (hq : RmH k (A.deeper (envOfC "_law_alike" (defScope s__law_alike) s.heap.objs.size f cdv))) :
    PSs (bx P wo g base ["_law_found", "_law_due"] "_law_alike" (defScope s__law_alike) f cdv A out s H E) (defBody s__law_alike) (tS g (fun c d _ H => E c d H) (b__law_alike (callN tab k))) :=
  have hr := hq.toRmG
  have xo := bx_ok (P := P) (wo := wo) (g := g) (base := base) (out := out) (H := H) (E := E) sc__law_alike hr
  have tk : Takes (bx P wo g base ["_law_found", "_law_due"] "_law_alike" (defScope s__law_alike) f cdv A out s H E) (fun c d _ H => E c d H) := takes_of rfl rfl rfl rfl
  have po : PassesOwn (model P wo) (bx P wo g base ["_law_found", "_law_due"] "_law_alike" (defScope s__law_alike) f cdv A out s H E).A (bx P wo g base ["_law_found", "_law_due"] "_law_alike" (defScope s__law_alike) f cdv A out s H E).env (bx P wo g base ["_law_found", "_law_due"] "_law_alike" (defScope s__law_alike) f cdv A out s H E).xe := passes_of rfl
  q_sone (q_ret (q_and (q_cmp (fun _ => (eq_ok xo.toXP)) (q_var (pv 0)) (q_var (pv 1))) (q_one (q_cmp (fun _ => (eq_ok xo.toXP)) (w_bi xo .repr G.nb (by rfl) rfl (q_cons (q_var (pv 0)) (q_nil))) (w_bi xo .repr G.nb (by rfl) rfl (q_cons (q_var (pv 1)) (q_nil)))))))
abbrev s__law_one : Stmt := topS 19
theorem sc__law_one : FnScope ["_law_bag_here", "_law_things"] ["_law_bag_here", "_law_things"] (defScope s__law_one) := ⟨rfl, rfl, rfl, by decide +kernel, rfl, by decide +kernel, by decide +kernel⟩
theorem p__law_one (G : GF P wo g) (DS : Defs P wo g base tab k) {f : Addr} (cdv : Value) (A : Around) (out : List Env) (s : Shared) (H : Hp) (E : XK) (hq : RmH k (A.deeper (envOfC "_law_one" (defScope s__law_one) s.heap.objs.size f cdv))) :
    PSs (bx P wo g base ["_law_bag_here", "_law_things"] "_law_one" (defScope s__law_one) f cdv A out s H E) (defBody s__law_one) (tS g (fun c d _ H => E c d H) (b__law_one (callN tab k))) :=
  have hr := hq.toRmG
  have xo := bx_ok (P := P) (wo := wo) (g := g) (base := base) (out := out) (H := H) (E := E) sc__law_one hr
  have tk : Takes (bx P wo g base ["_law_bag_here", "_law_things"] "_law_one" (defScope s__law_one) f cdv A out s H E) (fun c d _ H => E c d H) := takes_of rfl rfl rfl rfl
  have po : PassesOwn (model P wo) (bx P wo g base ["_law_bag_here", "_law_things"] "_law_one" (defScope s__law_one) f cdv A out s H E).A (bx P wo g base ["_law_bag_here", "_law_things"] "_law_one" (defScope s__law_one) f cdv A out s H E).env (bx P wo g base ["_law_bag_here", "_law_things"] "_law_one" (defScope s__law_one) f cdv A out s H E).xe := passes_of rfl
  q_sone (q_ret (q_idx xo (q_var (pv 1)) (q_call xo rfl rfl rfl DS t__law_take hr tk (by rfl) (q_cons (q_var (pv 0)) (q_cons (w_bi xo .len G.nb (by rfl) rfl (q_cons (q_var (pv 1)) (q_nil))) (q_nil))))))
abbrev s__law_names : Stmt := topS 20
theorem sc__law_names : FnScope ["_law_bag_here", "_law_many", "_law_menu", "_law_letters", "_law_stem", "_law_way", "_law_turn", "_law_k"] ["_law_bag_here", "_law_many"] (defScope s__law_names) := ⟨rfl, rfl, rfl, by decide +kernel, rfl, by decide +kernel, by decide +kernel⟩
theorem p__law_names (G : GF P wo g) (DS : Defs P wo g base tab k) {f : Addr} (cdv : Value) (A : Around) (out : List Env) (s : Shared) (H : Hp) (E : XK) (hq : RmH k (A.deeper (envOfC "_law_names" (defScope s__law_names) s.heap.objs.size f cdv))) :
    PSs (bx P wo g base ["_law_bag_here", "_law_many", "_law_menu", "_law_letters", "_law_stem", "_law_way", "_law_turn", "_law_k"] "_law_names" (defScope s__law_names) f cdv A out s H E) (defBody s__law_names) (tS g (fun c d _ H => E c d H) (b__law_names (callN tab k))) :=
  have hr := hq.toRmG
  have xo := bx_ok (P := P) (wo := wo) (g := g) (base := base) (out := out) (H := H) (E := E) sc__law_names hr
  have tk : Takes (bx P wo g base ["_law_bag_here", "_law_many", "_law_menu", "_law_letters", "_law_stem", "_law_way", "_law_turn", "_law_k"] "_law_names" (defScope s__law_names) f cdv A out s H E) (fun c d _ H => E c d H) := takes_of rfl rfl rfl rfl
  have po : PassesOwn (model P wo) (bx P wo g base ["_law_bag_here", "_law_many", "_law_menu", "_law_letters", "_law_stem", "_law_way", "_law_turn", "_law_k"] "_law_names" (defScope s__law_names) f cdv A out s H E).A (bx P wo g base ["_law_bag_here", "_law_many", "_law_menu", "_law_letters", "_law_stem", "_law_way", "_law_turn", "_law_k"] "_law_names" (defScope s__law_names) f cdv A out s H E).env (bx P wo g base ["_law_bag_here", "_law_many", "_law_menu", "_law_letters", "_law_stem", "_law_way", "_law_turn", "_law_k"] "_law_names" (defScope s__law_names) f cdv A out s H E).xe := passes_of rfl
  q_seq (w_set xo rfl (.inl rfl) (q_str1 (fun a b => pe_split a b) (q_str) (q_str) (fun _ _ _ _ _ _ _ _ hr rv q => split_r hr rv q)))
    (q_seq (q_asg (ps_asg (q_tup (q_cons (q_call xo rfl rfl rfl DS t__law_take hr tk (by rfl) (q_cons (q_var (pv 0)) (q_cons (q_int) (q_nil)))) (q_cons (q_call xo rfl rfl rfl DS t__law_take hr tk (by rfl) (q_cons (q_var (pv 0)) (q_cons (q_int) (q_nil)))) (q_nil)))) (q_gt2 (pg_tup rfl (pgs_cons (pg_name (i := 5) xo.nd rfl (.inl rfl)) (pgs_cons (pg_name (i := 6) xo.nd rfl (.inr rfl)) (pgs_nil)))))))
    (q_seq (q_if (q_tcmp (fun _ => (eq_ok xo.toXP)) (q_var (pv 5)) (q_int)) (q_sone (q_ret (w_bi xo .sorted G.nb (by rfl) rfl (q_cons (q_slc xo (q_bin (fun _ => add_ok) (q_slc xo (q_var (pv 2)) (q_some (q_var (pv 6))) (q_no)) (q_slc xo (q_var (pv 2)) (q_no) (q_some (q_var (pv 6))))) (q_no) (q_some (q_var (pv 1)))) (q_nil))))) (q_snil))
    (q_seq (q_if (q_tcmp (fun _ => (eq_ok xo.toXP)) (q_var (pv 5)) (q_int)) (q_sone (q_ret (w_bi xo .sorted G.nb (by rfl) rfl (q_cons (w_lc (fun _ => hands_frz) (own := [("_law_k", 7)]) xo (blkOk_by (N := ["_law_bag_here", "_law_many", "_law_menu", "_law_letters", "_law_stem", "_law_way", "_law_turn", "_law_k"]) (sc := defScope s__law_names) (by decide +kernel)) (w_rng1 xo (by rfl) G.z_range (q_cons (q_var (pv 1)) (q_nil))) (fun _ _ _ _ _ => q_gn (pg_name (i := 7) (XO.blk (xo)).nd rfl (.inl rfl))) (fun _ _ _ _ _ => q_pts0) (fun _ _ _ _ _ => q_slc (XO.blk (xo)) (q_str) (q_no) (q_some (q_bin (fun _ => add_ok) (q_var (pv 7)) (q_int))))) (q_nil))))) (q_snil))
    (q_seq (w_set xo rfl (.inr rfl) (q_str))
    (q_seq (w_set xo rfl (.inr rfl) (q_str1 (fun a b => pe_join a b) (q_str) (w_lc (fun _ => hands_frz) (own := [("_law_k", 7)]) xo (blkOk_by (N := ["_law_bag_here", "_law_many", "_law_menu", "_law_letters", "_law_stem", "_law_way", "_law_turn", "_law_k"]) (sc := defScope s__law_names) (by decide +kernel)) (w_rng1 xo (by rfl) G.z_range (q_cons (q_bin (fun _ => sub_ok) (q_var (pv 5)) (q_int)) (q_nil))) (fun _ _ _ _ _ => q_gn (pg_name (i := 7) (XO.blk (xo)).nd rfl (.inl rfl))) (fun _ _ _ _ _ => q_pts0) (fun _ _ _ _ _ => q_idx (XO.blk (xo)) (q_var (pv 3)) (q_call (XO.blk (xo)) rfl rfl rfl DS t__law_take hr takes0 (by rfl) (q_cons (q_var (pv 0)) (q_cons (q_int) (q_nil)))))) (fun _ _ _ _ _ _ _ _ hr rv q => join_r hr rv q)))
    (q_sone (q_ret (w_bi xo .sorted G.nb (by rfl) rfl (q_cons (w_lc (fun _ => hands_frz) (own := [("_law_k", 7)]) xo (blkOk_by (N := ["_law_bag_here", "_law_many", "_law_menu", "_law_letters", "_law_stem", "_law_way", "_law_turn", "_law_k"]) (sc := defScope s__law_names) (by decide +kernel)) (w_rng1 xo (by rfl) G.z_range (q_cons (q_var (pv 1)) (q_nil))) (fun _ _ _ _ _ => q_gn (pg_name (i := 7) (XO.blk (xo)).nd rfl (.inl rfl))) (fun _ _ _ _ _ => q_pts0) (fun _ _ _ _ _ => q_bin (fun _ => add_ok) (q_var (pv 4)) (q_idx (XO.blk (xo)) (q_var (pv 3)) (q_bin (fun _ => mod_ok) (w_bi (XO.blk (xo)) .int G.nb (by rfl) rfl (q_cons (q_bin (fun _ => add_ok) (q_var (pv 6)) (q_bin (fun _ => mul_ok) (q_int) (q_var (pv 7)))) (q_nil))) (q_int))))) (q_nil))))))))))
abbrev s__law_kind : Stmt := topS 21
theorem sc__law_kind : FnScope ["_law_bag_here", "_law_names_here", "_law_upto", "_law_way", "_law_left"] ["_law_bag_here", "_law_names_here", "_law_upto"] (defScope s__law_kind) := ⟨rfl, rfl, rfl, by decide +kernel, rfl, by decide +kernel, by decide +kernel⟩
theorem p__law_kind (G : GF P wo g) (DS : Defs P wo g base tab k) {f : Addr} (cdv : Value) (A : Around) (out : List Env) (s : Shared) (H : Hp) (E : XK) (hq : RmH k (A.deeper (envOfC "_law_kind" (defScope s__law_kind) s.heap.objs.size f cdv))) :
    PSs (bx P wo g base ["_law_bag_here", "_law_names_here", "_law_upto", "_law_way", "_law_left"] "_law_kind" (defScope s__law_kind) f cdv A out s H E) (defBody s__law_kind) (tS g (fun c d _ H => E c d H) (b__law_kind (callN tab k))) :=
  have hr := hq.toRmG
  have xo := bx_ok (P := P) (wo := wo) (g := g) (base := base) (out := out) (H := H) (E := E) sc__law_kind hr
  have tk : Takes (bx P wo g base ["_law_bag_here", "_law_names_here", "_law_upto", "_law_way", "_law_left"] "_law_kind" (defScope s__law_kind) f cdv A out s H E) (fun c d _ H => E c d H) := takes_of rfl rfl rfl rfl
  have po : PassesOwn (model P wo) (bx P wo g base ["_law_bag_here", "_law_names_here", "_law_upto", "_law_way", "_law_left"] "_law_kind" (defScope s__law_kind) f cdv A out s H E).A (bx P wo g base ["_law_bag_here", "_law_names_here", "_law_upto", "_law_way", "_law_left"] "_law_kind" (defScope s__law_kind) f cdv A out s H E).env (bx P wo g base ["_law_bag_here", "_law_names_here", "_law_upto", "_law_way", "_law_left"] "_law_kind" (defScope s__law_kind) f cdv A out s H E).xe := passes_of rfl
  q_seq (w_set xo rfl (.inl rfl) (q_call xo rfl rfl rfl DS t__law_take hr tk (by rfl) (q_cons (q_var (pv 0)) (q_cons (q_int) (q_nil)))))
    (q_seq (q_if (PW.pt (q_tor (q_tcmp (fun _ => (lt_ok xo.toXP)) (q_var (pv 2)) (q_int)) (pw_or1 (q_tcmp (fun _ => (lt_ok xo.toXP)) (q_var (pv 3)) (q_int))))) (q_sone (q_ret (q_call xo rfl rfl rfl DS t__law_one hr tk (by rfl) (q_cons (q_var (pv 0)) (q_cons (q_var (pv 1)) (q_nil)))))) (q_snil))
    (q_seq (q_if (PW.pt (q_tor (q_tcmp (fun _ => (eq_ok xo.toXP)) (q_var (pv 3)) (q_int)) (pw_or1 (q_tcmp (fun _ => (lt_ok xo.toXP)) (q_var (pv 2)) (q_int))))) (q_sone (q_ret (q_tup (q_cons (q_str) (q_cons (q_call xo rfl rfl rfl DS t__law_kind hr tk (by rfl) (q_cons (q_var (pv 0)) (q_cons (q_var (pv 1)) (q_cons (q_bin (fun _ => sub_ok) (q_var (pv 2)) (q_int)) (q_nil))))) (q_nil)))))) (q_snil))
    (q_seq (w_set xo rfl (.inl rfl) (q_bin (fun _ => add_ok) (q_int) (q_call xo rfl rfl rfl DS t__law_take hr tk (by rfl) (q_cons (q_var (pv 0)) (q_cons (q_bin (fun _ => sub_ok) (q_var (pv 2)) (q_int)) (q_nil))))))
    (q_sone (q_ret (q_tup (q_cons (q_str) (q_cons (q_call xo rfl rfl rfl DS t__law_kind hr tk (by rfl) (q_cons (q_var (pv 0)) (q_cons (q_var (pv 1)) (q_cons (q_var (pv 4)) (q_nil))))) (q_cons (q_call xo rfl rfl rfl DS t__law_kind hr tk (by rfl) (q_cons (q_var (pv 0)) (q_cons (q_var (pv 1)) (q_cons (q_bin (fun _ => sub_ok) (q_bin (fun _ => sub_ok) (q_var (pv 2)) (q_int)) (q_var (pv 4))) (q_nil))))) (q_nil))))))))))
abbrev s__law_any_kind : Stmt := topS 22
theorem sc__law_any_kind : FnScope ["_law_bag_here", "_law_names_here", "_law_upto", "_law_way", "_law_left", "_law_word"] ["_law_bag_here", "_law_names_here", "_law_upto"] (defScope s__law_any_kind) := ⟨rfl, rfl, rfl, by decide +kernel, rfl, by decide +kernel, by decide +kernel⟩
theorem p__law_any_kind (G : GF P wo g) (DS : Defs P wo g base tab k) {f : Addr} (cdv : Value) (A : Around) (out : List Env) (s : Shared) (H : Hp) (E : XK) (hq : RmH k (A.deeper (envOfC "_law_any_kind" (defScope s__law_any_kind) s.heap.objs.size f cdv))) :
    PSs (bx P wo g base ["_law_bag_here", "_law_names_here", "_law_upto", "_law_way", "_law_left", "_law_word"] "_law_any_kind" (defScope s__law_any_kind) f cdv A out s H E) (defBody s__law_any_kind) (tS g (fun c d _ H => E c d H) (b__law_any_kind (callN tab k))) :=
  have hr := hq.toRmG
  have xo := bx_ok (P := P) (wo := wo) (g := g) (base := base) (out := out) (H := H) (E := E) sc__law_any_kind hr
  have tk : Takes (bx P wo g base ["_law_bag_here", "_law_names_here", "_law_upto", "_law_way", "_law_left", "_law_word"] "_law_any_kind" (defScope s__law_any_kind) f cdv A out s H E) (fun c d _ H => E c d H) := takes_of rfl rfl rfl rfl
  have po : PassesOwn (model P wo) (bx P wo g base ["_law_bag_here", "_law_names_here", "_law_upto", "_law_way", "_law_left", "_law_word"] "_law_any_kind" (defScope s__law_any_kind) f cdv A out s H E).A (bx P wo g base ["_law_bag_here", "_law_names_here", "_law_upto", "_law_way", "_law_left", "_law_word"] "_law_any_kind" (defScope s__law_any_kind) f cdv A out s H E).env (bx P wo g base ["_law_bag_here", "_law_names_here", "_law_upto", "_law_way", "_law_left", "_law_word"] "_law_any_kind" (defScope s__law_any_kind) f cdv A out s H E).xe := passes_of rfl
  q_seq (w_set xo rfl (.inl rfl) (q_call xo rfl rfl rfl DS t__law_take hr tk (by rfl) (q_cons (q_var (pv 0)) (q_cons (q_int) (q_nil)))))
    (q_seq (q_if (PW.pt (q_tor (q_tcmp (fun _ => (lt_ok xo.toXP)) (q_var (pv 2)) (q_int)) (pw_or1 (q_tcmp (fun _ => (lt_ok xo.toXP)) (q_var (pv 3)) (q_int))))) (q_sone (q_ret (q_call xo rfl rfl rfl DS t__law_one hr tk (by rfl) (q_cons (q_var (pv 0)) (q_cons (q_var (pv 1)) (q_nil)))))) (q_snil))
    (q_seq (q_if (PW.pt (q_tor (q_tcmp (fun _ => (eq_ok xo.toXP)) (q_var (pv 3)) (q_int)) (pw_or1 (q_tcmp (fun _ => (lt_ok xo.toXP)) (q_var (pv 2)) (q_int))))) (q_sone (q_ret (q_tup (q_cons (q_str) (q_cons (q_call xo rfl rfl rfl DS t__law_any_kind hr tk (by rfl) (q_cons (q_var (pv 0)) (q_cons (q_var (pv 1)) (q_cons (q_bin (fun _ => sub_ok) (q_var (pv 2)) (q_int)) (q_nil))))) (q_nil)))))) (q_snil))
    (q_seq (w_set xo rfl (.inl rfl) (q_bin (fun _ => add_ok) (q_int) (q_call xo rfl rfl rfl DS t__law_take hr tk (by rfl) (q_cons (q_var (pv 0)) (q_cons (q_bin (fun _ => sub_ok) (q_var (pv 2)) (q_int)) (q_nil))))))
    (q_seq (w_set xo rfl (.inl rfl) (q_idx xo (q_lst (q_cons (q_str) (q_cons (q_str) (q_nil)))) (q_bin (fun _ => sub_ok) (q_var (pv 3)) (q_int))))
    (q_sone (q_ret (q_tup (q_cons (q_var (pv 5)) (q_cons (q_call xo rfl rfl rfl DS t__law_any_kind hr tk (by rfl) (q_cons (q_var (pv 0)) (q_cons (q_var (pv 1)) (q_cons (q_var (pv 4)) (q_nil))))) (q_cons (q_call xo rfl rfl rfl DS t__law_any_kind hr tk (by rfl) (q_cons (q_var (pv 0)) (q_cons (q_var (pv 1)) (q_cons (q_bin (fun _ => sub_ok) (q_bin (fun _ => sub_ok) (q_var (pv 2)) (q_int)) (q_var (pv 4))) (q_nil))))) (q_nil)))))))))))
abbrev s__law_size : Stmt := topS 23
theorem sc__law_size : FnScope ["_law_kind_here", "_law_part"] ["_law_kind_here"] (defScope s__law_size) := ⟨rfl, rfl, rfl, by decide +kernel, rfl, by decide +kernel, by decide +kernel⟩
theorem p__law_size (G : GF P wo g) (DS : Defs P wo g base tab k) {f : Addr} (cdv : Value) (A : Around) (out : List Env) (s : Shared) (H : Hp) (E : XK) (hq : RmH k (A.deeper (envOfC "_law_size" (defScope s__law_size) s.heap.objs.size f cdv))) :
    PSs (bx P wo g base ["_law_kind_here", "_law_part"] "_law_size" (defScope s__law_size) f cdv A out s H E) (defBody s__law_size) (tS g (fun c d _ H => E c d H) (b__law_size (callN tab k))) :=
  have hr := hq.toRmG
  have xo := bx_ok (P := P) (wo := wo) (g := g) (base := base) (out := out) (H := H) (E := E) sc__law_size hr
  have tk : Takes (bx P wo g base ["_law_kind_here", "_law_part"] "_law_size" (defScope s__law_size) f cdv A out s H E) (fun c d _ H => E c d H) := takes_of rfl rfl rfl rfl
  have po : PassesOwn (model P wo) (bx P wo g base ["_law_kind_here", "_law_part"] "_law_size" (defScope s__law_size) f cdv A out s H E).A (bx P wo g base ["_law_kind_here", "_law_part"] "_law_size" (defScope s__law_size) f cdv A out s H E).env (bx P wo g base ["_law_kind_here", "_law_part"] "_law_size" (defScope s__law_size) f cdv A out s H E).xe := passes_of rfl
  q_sone (q_ret (q_ife (q_tv (w_bi xo .isi G.nb (by rfl) rfl (q_cons (q_var (pv 0)) (q_cons (w_ty xo (by rfl) G.z_str) (q_nil))))) (q_int) (q_bin (fun _ => add_ok) (q_int) (w_bi xo .sum G.nb (by rfl) rfl (q_cons (w_lc (fun _ => hands_frz) (own := [("_law_part", 1)]) xo (blkOk_by (N := ["_law_kind_here", "_law_part"]) (sc := defScope s__law_size) (by decide +kernel)) (q_it (q_slc xo (q_var (pv 0)) (q_some (q_int)) (q_no))) (fun _ _ _ _ _ => q_gn (pg_name (i := 1) (XO.blk (xo)).nd rfl (.inl rfl))) (fun _ _ _ _ _ => q_pts0) (fun _ _ _ _ _ => q_call (XO.blk (xo)) rfl rfl rfl DS t__law_size hr takes0 (by rfl) (q_cons (q_var (pv 1)) (q_nil)))) (q_nil))))))
abbrev s__law_odd_value : Stmt := topS 24
theorem sc__law_odd_value : FnScope ["_law_bag_here", "_law_deep", "_law_k", "_law_some"] ["_law_bag_here"] (defScope s__law_odd_value) := ⟨rfl, rfl, rfl, by decide +kernel, rfl, by decide +kernel, by decide +kernel⟩
theorem p__law_odd_value (G : GF P wo g) (DS : Defs P wo g base tab k) {f : Addr} (cdv : Value) (A : Around) (out : List Env) (s : Shared) (H : Hp) (E : XK) (hq : RmH k (A.deeper (envOfC "_law_odd_value" (defScope s__law_odd_value) s.heap.objs.size f cdv))) :
    PSs (bx P wo g base ["_law_bag_here", "_law_deep", "_law_k", "_law_some"] "_law_odd_value" (defScope s__law_odd_value) f cdv A out s H E) (defBody s__law_odd_value) (tS g (fun c d _ H => E c d H) (b__law_odd_value (callN tab k))) :=
  have hr := hq.toRmG
  have xo := bx_ok (P := P) (wo := wo) (g := g) (base := base) (out := out) (H := H) (E := E) sc__law_odd_value hr
  have tk : Takes (bx P wo g base ["_law_bag_here", "_law_deep", "_law_k", "_law_some"] "_law_odd_value" (defScope s__law_odd_value) f cdv A out s H E) (fun c d _ H => E c d H) := takes_of rfl rfl rfl rfl
  have po : PassesOwn (model P wo) (bx P wo g base ["_law_bag_here", "_law_deep", "_law_k", "_law_some"] "_law_odd_value" (defScope s__law_odd_value) f cdv A out s H E).A (bx P wo g base ["_law_bag_here", "_law_deep", "_law_k", "_law_some"] "_law_odd_value" (defScope s__law_odd_value) f cdv A out s H E).env (bx P wo g base ["_law_bag_here", "_law_deep", "_law_k", "_law_some"] "_law_odd_value" (defScope s__law_odd_value) f cdv A out s H E).xe := passes_of rfl
  q_seq (w_set xo rfl (.inl rfl) (q_lst (q_nil)))
    (q_seq (w_for xo po (w_rng1 xo (by rfl) G.z_range (q_cons (q_int) (q_nil))) (q_gn (pg_name (i := 2) xo.nd rfl (.inl rfl))) (q_sone (w_set xo rfl (.inl rfl) (q_lst (q_cons (q_var (pv 1)) (q_nil))))))
    (q_seq (w_set xo rfl (.inl rfl) (q_lst (q_cons (q_non) (q_cons (q_bl) (q_cons (q_int) (q_cons (q_neg (q_int)) (q_cons (q_bin (fun _ => pow_ok) (q_int) (q_int)) (q_cons (q_str) (q_cons (q_str) (q_cons (q_str) (q_cons (q_str) (q_cons (q_tup (q_nil)) (q_cons (q_dct0) (q_cons (q_dct1) (q_cons (q_tup (q_cons (q_str) (q_nil))) (q_cons (q_lst (q_cons (q_str) (q_nil))) (q_cons (q_var (pv 1)) (q_nil))))))))))))))))))
    (q_sone (q_ret (q_idx xo (q_bin (fun _ => add_ok) (q_var (pv 3)) (q_lst (q_cons (q_tup (q_cons (q_str) (q_cons (q_str) (q_nil)))) (q_cons (q_tup (q_cons (q_str) (q_cons (q_str) (q_nil)))) (q_cons (q_bin (fun _ => mul_ok) (q_lst (q_cons (q_int) (q_nil))) (q_int)) (q_nil)))))) (q_call xo rfl rfl rfl DS t__law_take hr tk (by rfl) (q_cons (q_var (pv 0)) (q_cons (q_int) (q_nil)))))))))
abbrev s__law_term : Stmt := topS 25
theorem sc__law_term : FnScope ["_law_bag_here", "_law_names_here", "_law_signature_here", "_law_deep", "_law_way", "_law_calls", "_law_kind_here", "_law_name", "_law_many", "_law_rest", "_law_one_here", "_law_other", "_law_k"] ["_law_bag_here", "_law_names_here", "_law_signature_here", "_law_deep"] (defScope s__law_term) := ⟨rfl, rfl, rfl, by decide +kernel, rfl, by decide +kernel, by decide +kernel⟩
theorem p__law_term (G : GF P wo g) (DS : Defs P wo g base tab k) {f : Addr} (cdv : Value) (A : Around) (out : List Env) (s : Shared) (H : Hp) (E : XK) (hq : RmH k (A.deeper (envOfC "_law_term" (defScope s__law_term) s.heap.objs.size f cdv))) :
    PSs (bx P wo g base ["_law_bag_here", "_law_names_here", "_law_signature_here", "_law_deep", "_law_way", "_law_calls", "_law_kind_here", "_law_name", "_law_many", "_law_rest", "_law_one_here", "_law_other", "_law_k"] "_law_term" (defScope s__law_term) f cdv A out s H E) (defBody s__law_term) (tS g (fun c d _ H => E c d H) (b__law_term (callN tab k))) :=
  have hr := hq.toRmG
  have xo := bx_ok (P := P) (wo := wo) (g := g) (base := base) (out := out) (H := H) (E := E) sc__law_term hr
  have tk : Takes (bx P wo g base ["_law_bag_here", "_law_names_here", "_law_signature_here", "_law_deep", "_law_way", "_law_calls", "_law_kind_here", "_law_name", "_law_many", "_law_rest", "_law_one_here", "_law_other", "_law_k"] "_law_term" (defScope s__law_term) f cdv A out s H E) (fun c d _ H => E c d H) := takes_of rfl rfl rfl rfl
  have po : PassesOwn (model P wo) (bx P wo g base ["_law_bag_here", "_law_names_here", "_law_signature_here", "_law_deep", "_law_way", "_law_calls", "_law_kind_here", "_law_name", "_law_many", "_law_rest", "_law_one_here", "_law_other", "_law_k"] "_law_term" (defScope s__law_term) f cdv A out s H E).A (bx P wo g base ["_law_bag_here", "_law_names_here", "_law_signature_here", "_law_deep", "_law_way", "_law_calls", "_law_kind_here", "_law_name", "_law_many", "_law_rest", "_law_one_here", "_law_other", "_law_k"] "_law_term" (defScope s__law_term) f cdv A out s H E).env (bx P wo g base ["_law_bag_here", "_law_names_here", "_law_signature_here", "_law_deep", "_law_way", "_law_calls", "_law_kind_here", "_law_name", "_law_many", "_law_rest", "_law_one_here", "_law_other", "_law_k"] "_law_term" (defScope s__law_term) f cdv A out s H E).xe := passes_of rfl
  q_seq (w_set xo rfl (.inl rfl) (q_call xo rfl rfl rfl DS t__law_take hr tk (by rfl) (q_cons (q_var (pv 0)) (q_cons (q_int) (q_nil)))))
    (q_seq (w_setLc (fun _ => hands_frz) (own := [("_law_name", 7)]) xo rfl rfl (sw_true rfl rfl rfl rfl) (blkOk_by (N := ["_law_bag_here", "_law_names_here", "_law_signature_here", "_law_deep", "_law_way", "_law_calls", "_law_kind_here", "_law_name", "_law_many", "_law_rest", "_law_one_here", "_law_other", "_law_k"]) (sc := defScope s__law_term) (by decide +kernel)) (q_it (q_srtD xo (by rfl) G.z_sorted (q_var (pv 2)))) (fun _ _ _ _ _ => q_gn (pg_name (i := 7) (XO.blk (xo)).nd rfl (.inl rfl))) (fun _ _ _ _ _ => pts_one (PW.pt (q_tand (q_tcmp (fun _ => (eq_ok (XO.blk (xo)).toXP)) (q_idx (XO.blk (xo)) (q_idx (XO.blk (xo)) (q_var (pv 2)) (q_var (pv 7))) (q_int)) (q_str)) (pw_and1 (q_tv (w_bi (XO.blk (xo)) .isi G.nb (by rfl) rfl (q_cons (q_idx (XO.blk (xo)) (q_var (pv 2)) (q_var (pv 7))) (q_cons (w_ty (XO.blk (xo)) (by rfl) G.z_tuple) (q_nil))))))))) (fun _ _ _ _ _ => q_var (pv 7)))
    (q_seq (q_if (PW.pt (q_tor (q_tcmp (fun _ => (eq_ok xo.toXP)) (q_var (pv 3)) (q_int)) (pw_or1 (q_tcmp (fun _ => (lt_ok xo.toXP)) (q_var (pv 4)) (q_int))))) (q_seq (w_set xo rfl (.inl rfl) (q_call xo rfl rfl rfl DS t__law_one hr tk (by rfl) (q_cons (q_var (pv 0)) (q_cons (q_srtD xo (by rfl) G.z_sorted (q_var (pv 2))) (q_nil)))))
    (q_sone (q_ret (q_tup (q_cons (q_tup (q_cons (q_str) (q_cons (q_var (pv 7)) (q_nil)))) (q_cons (q_idx xo (q_var (pv 2)) (q_var (pv 7))) (q_nil))))))) (q_snil))
    (q_seq (q_if (q_tcmp (fun _ => (eq_ok xo.toXP)) (q_var (pv 4)) (q_int)) (q_seq (w_par xo rfl rfl (by decide) rfl rfl (q_cons (q_call xo rfl rfl rfl DS t__law_term hr tk (by rfl) (q_cons (q_var (pv 0)) (q_cons (q_var (pv 1)) (q_cons (q_var (pv 2)) (q_cons (q_bin (fun _ => sub_ok) (q_var (pv 3)) (q_int)) (q_nil)))))) (q_cons (q_call xo rfl rfl rfl DS t__law_term hr tk (by rfl) (q_cons (q_var (pv 0)) (q_cons (q_var (pv 1)) (q_cons (q_var (pv 2)) (q_cons (q_bin (fun _ => sub_ok) (q_var (pv 3)) (q_int)) (q_nil)))))) (q_nil))) rfl)
    (q_seq (q_if (q_tcmp (fun _ => (gt_ok xo.toXP)) (q_bin (fun _ => add_ok) (q_call xo rfl rfl rfl DS t__law_size hr tk (by rfl) (q_cons (q_idx xo (q_var (pv 10)) (q_int)) (q_nil))) (q_call xo rfl rfl rfl DS t__law_size hr tk (by rfl) (q_cons (q_idx xo (q_var (pv 11)) (q_int)) (q_nil)))) (q_int)) (q_sone (q_ret (q_var (pv 10)))) (q_snil))
    (q_sone (q_ret (q_tup (q_cons (q_tup (q_cons (q_str) (q_cons (q_idx xo (q_var (pv 10)) (q_int)) (q_cons (q_idx xo (q_var (pv 11)) (q_int)) (q_nil))))) (q_cons (q_tup (q_cons (q_str) (q_cons (q_idx xo (q_var (pv 10)) (q_int)) (q_cons (q_idx xo (q_var (pv 11)) (q_int)) (q_nil))))) (q_nil)))))))) (q_snil))
    (q_seq (q_if (PW.pt (q_tand (q_tcmp (fun _ => (eq_ok xo.toXP)) (q_var (pv 4)) (q_int)) (pw_and1 (q_tcmp (fun _ => (ne_ok xo.toXP)) (q_var (pv 5)) (q_lst (q_nil)))))) (q_seq (w_set xo rfl (.inl rfl) (q_call xo rfl rfl rfl DS t__law_one hr tk (by rfl) (q_cons (q_var (pv 0)) (q_cons (q_var (pv 5)) (q_nil)))))
    (q_sone (q_ret (q_tup (q_cons (q_tup (q_cons (q_str) (q_cons (q_var (pv 7)) (q_cons (q_idx xo (q_call xo rfl rfl rfl DS t__law_term hr tk (by rfl) (q_cons (q_var (pv 0)) (q_cons (q_var (pv 1)) (q_cons (q_var (pv 2)) (q_cons (q_bin (fun _ => sub_ok) (q_var (pv 3)) (q_int)) (q_nil)))))) (q_int)) (q_nil))))) (q_cons (q_idx xo (q_idx xo (q_var (pv 2)) (q_var (pv 7))) (q_int)) (q_nil))))))) (q_snil))
    (q_seq (w_set xo rfl (.inl rfl) (q_ife (q_tcmp (fun _ => (eq_ok xo.toXP)) (q_call xo rfl rfl rfl DS t__law_take hr tk (by rfl) (q_cons (q_var (pv 0)) (q_cons (q_int) (q_nil)))) (q_int)) (q_call xo rfl rfl rfl DS t__law_any_kind hr tk (by rfl) (q_cons (q_var (pv 0)) (q_cons (q_var (pv 1)) (q_cons (q_int) (q_nil))))) (q_call xo rfl rfl rfl DS t__law_kind hr tk (by rfl) (q_cons (q_var (pv 0)) (q_cons (q_var (pv 1)) (q_cons (q_int) (q_nil)))))))
    (q_seq (q_if (q_tcmp (fun _ => (eq_ok xo.toXP)) (q_var (pv 4)) (q_int)) (q_seq (w_set xo rfl (.inl rfl) (q_idx xo (q_lst (q_cons (q_int) (q_cons (q_int) (q_cons (q_int) (q_cons (q_int) (q_cons (q_int) (q_cons (q_int) (q_nil)))))))) (q_call xo rfl rfl rfl DS t__law_take hr tk (by rfl) (q_cons (q_var (pv 0)) (q_cons (q_int) (q_nil))))))
    (q_seq (w_setLc (fun _ => hands_frz) (own := [("_law_k", 12)]) xo rfl rfl (sw_true rfl rfl rfl rfl) (blkOk_by (N := ["_law_bag_here", "_law_names_here", "_law_signature_here", "_law_deep", "_law_way", "_law_calls", "_law_kind_here", "_law_name", "_law_many", "_law_rest", "_law_one_here", "_law_other", "_law_k"]) (sc := defScope s__law_term) (by decide +kernel)) (w_rng1 xo (by rfl) G.z_range (q_cons (q_var (pv 8)) (q_nil))) (fun _ _ _ _ _ => q_gn (pg_name (i := 12) (XO.blk (xo)).nd rfl (.inl rfl))) (fun _ _ _ _ _ => q_pts0) (fun _ _ _ _ _ => q_idx (XO.blk (xo)) (q_call (XO.blk (xo)) rfl rfl rfl DS t__law_term hr takes0 (by rfl) (q_cons (q_var (pv 0)) (q_cons (q_var (pv 1)) (q_cons (q_var (pv 2)) (q_cons (q_bin (fun _ => sub_ok) (q_var (pv 3)) (q_int)) (q_nil)))))) (q_int)))
    (q_sone (q_ret (q_tup (q_cons (q_tup (q_cons (q_str) (q_cons (q_var (pv 6)) (q_cons (w_bi xo .tuple G.nb (by rfl) rfl (q_cons (q_var (pv 9)) (q_nil))) (q_nil))))) (q_cons (q_tup (q_cons (q_str) (q_cons (q_var (pv 6)) (q_nil)))) (q_nil)))))))) (q_snil))
    (q_sone (q_ret (q_tup (q_cons (q_tup (q_cons (q_str) (q_cons (q_var (pv 6)) (q_cons (q_idx xo (q_call xo rfl rfl rfl DS t__law_term hr tk (by rfl) (q_cons (q_var (pv 0)) (q_cons (q_var (pv 1)) (q_cons (q_var (pv 2)) (q_cons (q_bin (fun _ => sub_ok) (q_var (pv 3)) (q_int)) (q_nil)))))) (q_int)) (q_nil))))) (q_cons (q_var (pv 6)) (q_nil))))))))))))
abbrev s__law_signature : Stmt := topS 26
theorem sc__law_signature : FnScope ["_law_bag_here", "_law_names_here", "_law_found", "_law_name", "_law_kind_here"] ["_law_bag_here", "_law_names_here"] (defScope s__law_signature) := ⟨rfl, rfl, rfl, by decide +kernel, rfl, by decide +kernel, by decide +kernel⟩
theorem p__law_signature (G : GF P wo g) (DS : Defs P wo g base tab k) {f : Addr} (cdv : Value) (A : Around) (out : List Env) (s : Shared) (H : Hp) (E : XK) (hq : RmH k (A.deeper (envOfC "_law_signature" (defScope s__law_signature) s.heap.objs.size f cdv))) :
    PSs (bx P wo g base ["_law_bag_here", "_law_names_here", "_law_found", "_law_name", "_law_kind_here"] "_law_signature" (defScope s__law_signature) f cdv A out s H E) (defBody s__law_signature) (tS g (fun c d _ H => E c d H) (b__law_signature (callN tab k))) :=
  have hr := hq.toRmG
  have xo := bx_ok (P := P) (wo := wo) (g := g) (base := base) (out := out) (H := H) (E := E) sc__law_signature hr
  have tk : Takes (bx P wo g base ["_law_bag_here", "_law_names_here", "_law_found", "_law_name", "_law_kind_here"] "_law_signature" (defScope s__law_signature) f cdv A out s H E) (fun c d _ H => E c d H) := takes_of rfl rfl rfl rfl
  have po : PassesOwn (model P wo) (bx P wo g base ["_law_bag_here", "_law_names_here", "_law_found", "_law_name", "_law_kind_here"] "_law_signature" (defScope s__law_signature) f cdv A out s H E).A (bx P wo g base ["_law_bag_here", "_law_names_here", "_law_found", "_law_name", "_law_kind_here"] "_law_signature" (defScope s__law_signature) f cdv A out s H E).env (bx P wo g base ["_law_bag_here", "_law_names_here", "_law_found", "_law_name", "_law_kind_here"] "_law_signature" (defScope s__law_signature) f cdv A out s H E).xe := passes_of rfl
  q_seq (w_set xo rfl (.inl rfl) (q_ndct0))
    (q_seq (w_for xo po (q_it (q_slc xo (q_lst (q_cons (q_str) (q_cons (q_str) (q_cons (q_str) (q_cons (q_str) (q_nil)))))) (q_no) (q_some (q_bin (fun _ => add_ok) (q_int) (q_call xo rfl rfl rfl DS t__law_take hr tk (by rfl) (q_cons (q_var (pv 0)) (q_cons (q_int) (q_nil)))))))) (q_gn (pg_name (i := 3) xo.nd rfl (.inl rfl))) (q_seq (w_set xo rfl (.inl rfl) (q_call xo rfl rfl rfl DS t__law_any_kind hr tk (by rfl) (q_cons (q_var (pv 0)) (q_cons (q_var (pv 1)) (q_cons (q_int) (q_nil))))))
    (q_seq (q_if (PW.pt (q_tand (q_tcmp (fun _ => (in_ok xo)) (q_var (pv 3)) (q_tup (q_cons (q_str) (q_cons (q_str) (q_nil))))) (pw_and1 (q_tcmp (fun _ => (gt_ok xo.toXP)) (q_call xo rfl rfl rfl DS t__law_take hr tk (by rfl) (q_cons (q_var (pv 0)) (q_cons (q_int) (q_nil)))) (q_int))))) (q_sone (w_set xo rfl (.inl rfl) (q_tup (q_cons (q_str) (q_cons (q_call xo rfl rfl rfl DS t__law_kind hr tk (by rfl) (q_cons (q_var (pv 0)) (q_cons (q_var (pv 1)) (q_cons (q_int) (q_nil))))) (q_cons (q_call xo rfl rfl rfl DS t__law_kind hr tk (by rfl) (q_cons (q_var (pv 0)) (q_cons (q_var (pv 1)) (q_cons (q_int) (q_nil))))) (q_nil))))))) (q_snil))
    (q_sone (w_setky xo.toXP (q_var (pv 4)) (q_var (pv 2)) (q_var (pv 3)))))))
    (q_sone (q_ret (q_goD (q_var (pv 2))))))
abbrev s__law_looked : Stmt := topS 27
theorem sc__law_looked : FnScope ["_law_signature_here", "_law_term_here", "_law_part", "_law_one_here", "_law_other", "_law_kind_here", "_law_rest", "_law_places_of"] ["_law_signature_here", "_law_term_here"] (defScope s__law_looked) := ⟨rfl, rfl, rfl, by decide +kernel, rfl, by decide +kernel, by decide +kernel⟩
theorem p__law_looked (G : GF P wo g) (DS : Defs P wo g base tab k) {f : Addr} (cdv : Value) (A : Around) (out : List Env) (s : Shared) (H : Hp) (E : XK) (hq : RmH k (A.deeper (envOfC "_law_looked" (defScope s__law_looked) s.heap.objs.size f cdv))) :
    PSs (bx P wo g base ["_law_signature_here", "_law_term_here", "_law_part", "_law_one_here", "_law_other", "_law_kind_here", "_law_rest", "_law_places_of"] "_law_looked" (defScope s__law_looked) f cdv A out s H E) (defBody s__law_looked) (tS g (fun c d _ H => E c d H) (b__law_looked (callN tab k))) :=
  have hr := hq.toRmG
  have xo := bx_ok (P := P) (wo := wo) (g := g) (base := base) (out := out) (H := H) (E := E) sc__law_looked hr
  have tk : Takes (bx P wo g base ["_law_signature_here", "_law_term_here", "_law_part", "_law_one_here", "_law_other", "_law_kind_here", "_law_rest", "_law_places_of"] "_law_looked" (defScope s__law_looked) f cdv A out s H E) (fun c d _ H => E c d H) := takes_of rfl rfl rfl rfl
  have po : PassesOwn (model P wo) (bx P wo g base ["_law_signature_here", "_law_term_here", "_law_part", "_law_one_here", "_law_other", "_law_kind_here", "_law_rest", "_law_places_of"] "_law_looked" (defScope s__law_looked) f cdv A out s H E).A (bx P wo g base ["_law_signature_here", "_law_term_here", "_law_part", "_law_one_here", "_law_other", "_law_kind_here", "_law_rest", "_law_places_of"] "_law_looked" (defScope s__law_looked) f cdv A out s H E).env (bx P wo g base ["_law_signature_here", "_law_term_here", "_law_part", "_law_one_here", "_law_other", "_law_kind_here", "_law_rest", "_law_places_of"] "_law_looked" (defScope s__law_looked) f cdv A out s H E).xe := passes_of rfl
  q_seq (q_if (q_tcmp (fun _ => (eq_ok xo.toXP)) (q_idx xo (q_var (pv 1)) (q_int)) (q_str)) (q_sone (q_ret (q_ife (q_tcmp (fun _ => (in_ok xo)) (q_idx xo (q_var (pv 1)) (q_int)) (q_var (pv 0))) (q_tup (q_cons (q_idx xo (q_var (pv 0)) (q_idx xo (q_var (pv 1)) (q_int))) (q_cons (q_lst (q_nil)) (q_nil)))) (q_tup (q_cons (q_idx xo (q_var (pv 1)) (q_int)) (q_cons (q_non) (q_nil))))))) (q_snil))
    (q_seq (q_if (q_tcmp (fun _ => (eq_ok xo.toXP)) (q_idx xo (q_var (pv 1)) (q_int)) (q_str)) (q_seq (w_set xo rfl (.inl rfl) (q_call xo rfl rfl rfl DS t__law_looked hr tk (by rfl) (q_cons (q_var (pv 0)) (q_cons (q_idx xo (q_var (pv 1)) (q_int)) (q_nil)))))
    (q_seq (w_set xo rfl (.inl rfl) (q_ife (q_tcmp (fun _ => isn_ok) (q_idx xo (q_var (pv 3)) (q_int)) (q_non)) (q_call xo rfl rfl rfl DS t__law_looked hr tk (by rfl) (q_cons (q_var (pv 0)) (q_cons (q_idx xo (q_var (pv 1)) (q_int)) (q_nil)))) (q_var (pv 3))))
    (q_seq (q_if (q_tcmp (fun _ => is_ok) (q_idx xo (q_var (pv 4)) (q_int)) (q_non)) (q_sone (q_ret (q_var (pv 4)))) (q_snil))
    (q_sone (q_ret (q_tup (q_cons (q_tup (q_cons (q_str) (q_cons (q_idx xo (q_var (pv 3)) (q_int)) (q_cons (q_idx xo (q_var (pv 4)) (q_int)) (q_nil))))) (q_cons (q_bin (fun _ => add_ok) (q_idx xo (q_var (pv 3)) (q_int)) (q_idx xo (q_var (pv 4)) (q_int))) (q_nil))))))))) (q_snil))
    (q_seq (q_if (q_tcmp (fun _ => (eq_ok xo.toXP)) (q_idx xo (q_var (pv 1)) (q_int)) (q_str)) (q_seq (w_set xo rfl (.inl rfl) (q_get2 xo.toXP (q_var (pv 0)) (q_idx xo (q_var (pv 1)) (q_int)) (q_str) ⟨rfl, rfl, rfl, rfl⟩))
    (q_seq (q_if (PW.pt (q_tor (q_tnot (q_tv (w_bi xo .isi G.nb (by rfl) rfl (q_cons (q_var (pv 5)) (q_cons (w_ty xo (by rfl) G.z_tuple) (q_nil)))))) (pw_or1 (q_tcmp (fun _ => (ne_ok xo.toXP)) (q_idx xo (q_var (pv 5)) (q_int)) (q_str))))) (q_sone (q_ret (q_tup (q_cons (q_idx xo (q_var (pv 1)) (q_int)) (q_cons (q_non) (q_nil)))))) (q_snil))
    (q_seq (w_set xo rfl (.inl rfl) (q_call xo rfl rfl rfl DS t__law_looked hr tk (by rfl) (q_cons (q_var (pv 0)) (q_cons (q_idx xo (q_var (pv 1)) (q_int)) (q_nil)))))
    (q_seq (q_if (q_tcmp (fun _ => is_ok) (q_idx xo (q_var (pv 3)) (q_int)) (q_non)) (q_sone (q_ret (q_var (pv 3)))) (q_snil))
    (q_sone (q_ret (q_tup (q_cons (q_idx xo (q_var (pv 5)) (q_int)) (q_cons (q_bin (fun _ => add_ok) (q_idx xo (q_var (pv 3)) (q_int)) (q_lst (q_cons (q_tup (q_cons (q_idx xo (q_var (pv 3)) (q_int)) (q_cons (q_idx xo (q_var (pv 5)) (q_int)) (q_nil)))) (q_nil)))) (q_nil)))))))))) (q_snil))
    (q_seq (w_par xo rfl rfl (by decide) rfl rfl (q_cons (q_ife (q_tcmp (fun _ => (eq_ok xo.toXP)) (q_idx xo (q_var (pv 1)) (q_int)) (q_str)) (w_bi xo .list G.nb (by rfl) rfl (q_cons (q_idx xo (q_var (pv 1)) (q_int)) (q_nil))) (q_lst (q_cons (q_idx xo (q_var (pv 1)) (q_int)) (q_nil)))) (q_cons (q_lst (q_nil)) (q_nil))) rfl)
    (q_seq (w_for xo po (q_it (q_var (pv 6))) (q_gn (pg_name (i := 2) xo.nd rfl (.inl rfl))) (q_seq (w_set xo rfl (.inl rfl) (q_call xo rfl rfl rfl DS t__law_looked hr tk (by rfl) (q_cons (q_var (pv 0)) (q_cons (q_var (pv 2)) (q_nil)))))
    (q_seq (q_if (q_tcmp (fun _ => is_ok) (q_idx xo (q_var (pv 3)) (q_int)) (q_non)) (q_sone (q_ret (q_var (pv 3)))) (q_snil))
    (q_sone (w_set xo rfl (.inl rfl) (q_bin (fun _ => add_ok) (q_bin (fun _ => add_ok) (q_var (pv 7)) (q_idx xo (q_var (pv 3)) (q_int))) (q_lst (q_cons (q_tup (q_cons (q_idx xo (q_var (pv 3)) (q_int)) (q_cons (q_idx xo (q_var (pv 1)) (q_int)) (q_nil)))) (q_nil)))))))))
    (q_sone (q_ret (q_tup (q_cons (q_ife (q_tcmp (fun _ => (eq_ok xo.toXP)) (q_idx xo (q_var (pv 1)) (q_int)) (q_str)) (q_tup (q_cons (q_str) (q_cons (q_idx xo (q_var (pv 1)) (q_int)) (q_nil)))) (q_idx xo (q_var (pv 1)) (q_int))) (q_cons (q_var (pv 7)) (q_nil))))))))))
abbrev s__law_is_name : Stmt := topS 28
theorem sc__law_is_name : FnScope ["_law_thing", "_law_sign"] ["_law_thing"] (defScope s__law_is_name) := ⟨rfl, rfl, rfl, by decide +kernel, rfl, by decide +kernel, by decide +kernel⟩
theorem p__law_is_name (G : GF P wo g) (DS : Defs P wo g base tab k) {f : Addr} (cdv : Value) (A : Around) (out : List Env) (s : Shared) (H : Hp) (E : XK) (hq : RmH k (A.deeper (envOfC "_law_is_name" (defScope s__law_is_name) s.heap.objs.size f cdv))) :
    PSs (bx P wo g base ["_law_thing", "_law_sign"] "_law_is_name" (defScope s__law_is_name) f cdv A out s H E) (defBody s__law_is_name) (tS g (fun c d _ H => E c d H) (b__law_is_name (callN tab k))) :=
  have hr := hq.toRmG
  have xo := bx_ok (P := P) (wo := wo) (g := g) (base := base) (out := out) (H := H) (E := E) sc__law_is_name hr
  have tk : Takes (bx P wo g base ["_law_thing", "_law_sign"] "_law_is_name" (defScope s__law_is_name) f cdv A out s H E) (fun c d _ H => E c d H) := takes_of rfl rfl rfl rfl
  have po : PassesOwn (model P wo) (bx P wo g base ["_law_thing", "_law_sign"] "_law_is_name" (defScope s__law_is_name) f cdv A out s H E).A (bx P wo g base ["_law_thing", "_law_sign"] "_law_is_name" (defScope s__law_is_name) f cdv A out s H E).env (bx P wo g base ["_law_thing", "_law_sign"] "_law_is_name" (defScope s__law_is_name) f cdv A out s H E).xe := passes_of rfl
  q_seq (q_if (PW.pt (q_tor (q_tnot (q_tv (w_bi xo .isi G.nb (by rfl) rfl (q_cons (q_var (pv 0)) (q_cons (w_ty xo (by rfl) G.z_str) (q_nil)))))) (pw_or1 (q_tnot (w_tchain (fun _ => (le_ok xo.toXP)) (fun _ => (le_ok xo.toXP)) (q_int) (w_bi xo .len G.nb (by rfl) rfl (q_cons (q_var (pv 0)) (q_nil))) (q_int)))))) (q_sone (q_ret (q_bl))) (q_snil))
    (q_sone (q_ret (q_cmp (fun _ => (eq_ok xo.toXP)) (w_lc (fun _ => hands_frz) (own := [("_law_sign", 1)]) xo (blkOk_by (N := ["_law_thing", "_law_sign"]) (sc := defScope s__law_is_name) (by decide +kernel)) (q_it (q_var (pv 0))) (fun _ _ _ _ _ => q_gn (pg_name (i := 1) (XO.blk (xo)).nd rfl (.inl rfl))) (fun _ _ _ _ _ => pts_one (q_tcmp (fun _ => (nin_ok (XO.blk (xo)))) (q_var (pv 1)) (q_str))) (fun _ _ _ _ _ => q_var (pv 1))) (q_lst (q_nil)))))
abbrev s__law_is_kind : Stmt := topS 30
theorem sc__law_is_kind : FnScope ["_law_thing", "_law_part"] ["_law_thing"] (defScope s__law_is_kind) := ⟨rfl, rfl, rfl, by decide +kernel, rfl, by decide +kernel, by decide +kernel⟩
theorem p__law_is_kind (G : GF P wo g) (DS : Defs P wo g base tab k) {f : Addr} (cdv : Value) (A : Around) (out : List Env) (s : Shared) (H : Hp) (E : XK) (hq : RmH k (A.deeper (envOfC "_law_is_kind" (defScope s__law_is_kind) s.heap.objs.size f cdv))) :
    PSs (bx P wo g base ["_law_thing", "_law_part"] "_law_is_kind" (defScope s__law_is_kind) f cdv A out s H E) (defBody s__law_is_kind) (tS g (fun c d _ H => E c d H) (b__law_is_kind (callN tab k))) :=
  have hr := hq.toRmG
  have xo := bx_ok (P := P) (wo := wo) (g := g) (base := base) (out := out) (H := H) (E := E) sc__law_is_kind hr
  have tk : Takes (bx P wo g base ["_law_thing", "_law_part"] "_law_is_kind" (defScope s__law_is_kind) f cdv A out s H E) (fun c d _ H => E c d H) := takes_of rfl rfl rfl rfl
  have po : PassesOwn (model P wo) (bx P wo g base ["_law_thing", "_law_part"] "_law_is_kind" (defScope s__law_is_kind) f cdv A out s H E).A (bx P wo g base ["_law_thing", "_law_part"] "_law_is_kind" (defScope s__law_is_kind) f cdv A out s H E).env (bx P wo g base ["_law_thing", "_law_part"] "_law_is_kind" (defScope s__law_is_kind) f cdv A out s H E).xe := passes_of rfl
  q_seq (q_if (q_tnot (q_tv (w_bi xo .isi G.nb (by rfl) rfl (q_cons (q_var (pv 0)) (q_cons (w_ty xo (by rfl) G.z_tuple) (q_nil)))))) (q_sone (q_ret (q_call xo rfl rfl rfl DS t__law_is_name hr tk (by rfl) (q_cons (q_var (pv 0)) (q_nil))))) (q_snil))
    (q_seq (q_if (PW.pt (q_tor (q_tcmp (fun _ => (nin_ok xo)) (w_bi xo .len G.nb (by rfl) rfl (q_cons (q_var (pv 0)) (q_nil))) (q_tup (q_cons (q_int) (q_cons (q_int) (q_nil))))) (q_tor (q_tnot (q_tv (w_bi xo .isi G.nb (by rfl) rfl (q_cons (q_idx xo (q_var (pv 0)) (q_int)) (q_cons (w_ty xo (by rfl) G.z_str) (q_nil)))))) (pw_or1 (q_tcmp (fun _ => (nin_ok xo)) (q_idx xo (q_var (pv 0)) (q_int)) (q_tup (q_cons (q_str) (q_cons (q_str) (q_cons (q_str) (q_nil)))))))))) (q_sone (q_ret (q_bl))) (q_snil))
    (q_seq (q_if (q_tcmp (fun _ => (ne_ok xo.toXP)) (w_bi xo .len G.nb (by rfl) rfl (q_cons (q_var (pv 0)) (q_nil))) (q_idx xo (q_lst (q_cons (q_int) (q_cons (q_int) (q_nil)))) (w_bi xo .int G.nb (by rfl) rfl (q_cons (q_cmp (fun _ => (ne_ok xo.toXP)) (q_idx xo (q_var (pv 0)) (q_int)) (q_str)) (q_nil))))) (q_sone (q_ret (q_bl))) (q_snil))
    (q_sone (q_ret (q_cmp (fun _ => (eq_ok xo.toXP)) (w_lc (fun _ => hands_frz) (own := [("_law_part", 1)]) xo (blkOk_by (N := ["_law_thing", "_law_part"]) (sc := defScope s__law_is_kind) (by decide +kernel)) (q_it (q_slc xo (q_var (pv 0)) (q_some (q_int)) (q_no))) (fun _ _ _ _ _ => q_gn (pg_name (i := 1) (XO.blk (xo)).nd rfl (.inl rfl))) (fun _ _ _ _ _ => pts_one (q_tnot (q_tv (q_call (XO.blk (xo)) rfl rfl rfl DS t__law_is_kind hr takes0 (by rfl) (q_cons (q_var (pv 1)) (q_nil)))))) (fun _ _ _ _ _ => q_var (pv 1))) (q_lst (q_nil)))))))
abbrev s__law_is_term : Stmt := topS 31
theorem sc__law_is_term : FnScope ["_law_thing", "_law_part"] ["_law_thing"] (defScope s__law_is_term) := ⟨rfl, rfl, rfl, by decide +kernel, rfl, by decide +kernel, by decide +kernel⟩
theorem p__law_is_term (G : GF P wo g) (DS : Defs P wo g base tab k) {f : Addr} (cdv : Value) (A : Around) (out : List Env) (s : Shared) (H : Hp) (E : XK) (hq : RmH k (A.deeper (envOfC "_law_is_term" (defScope s__law_is_term) s.heap.objs.size f cdv))) :
    PSs (bx P wo g base ["_law_thing", "_law_part"] "_law_is_term" (defScope s__law_is_term) f cdv A out s H E) (defBody s__law_is_term) (tS g (fun c d _ H => E c d H) (b__law_is_term (callN tab k))) :=
  have hr := hq.toRmG
  have xo := bx_ok (P := P) (wo := wo) (g := g) (base := base) (out := out) (H := H) (E := E) sc__law_is_term hr
  have tk : Takes (bx P wo g base ["_law_thing", "_law_part"] "_law_is_term" (defScope s__law_is_term) f cdv A out s H E) (fun c d _ H => E c d H) := takes_of rfl rfl rfl rfl
  have po : PassesOwn (model P wo) (bx P wo g base ["_law_thing", "_law_part"] "_law_is_term" (defScope s__law_is_term) f cdv A out s H E).A (bx P wo g base ["_law_thing", "_law_part"] "_law_is_term" (defScope s__law_is_term) f cdv A out s H E).env (bx P wo g base ["_law_thing", "_law_part"] "_law_is_term" (defScope s__law_is_term) f cdv A out s H E).xe := passes_of rfl
  q_seq (q_if (PW.pt (q_tor (q_tnot (q_tv (w_bi xo .isi G.nb (by rfl) rfl (q_cons (q_var (pv 0)) (q_cons (w_ty xo (by rfl) G.z_tuple) (q_nil)))))) (q_tor (q_tcmp (fun _ => (nin_ok xo)) (w_bi xo .len G.nb (by rfl) rfl (q_cons (q_var (pv 0)) (q_nil))) (q_tup (q_cons (q_int) (q_cons (q_int) (q_nil))))) (pw_or1 (q_tnot (q_tv (w_bi xo .isi G.nb (by rfl) rfl (q_cons (q_idx xo (q_var (pv 0)) (q_int)) (q_cons (w_ty xo (by rfl) G.z_str) (q_nil)))))))))) (q_sone (q_ret (q_bl))) (q_snil))
    (q_seq (q_if (q_tcmp (fun _ => (eq_ok xo.toXP)) (q_idx xo (q_var (pv 0)) (q_int)) (q_str)) (q_sone (q_ret (q_and (q_cmp (fun _ => (eq_ok xo.toXP)) (w_bi xo .len G.nb (by rfl) rfl (q_cons (q_var (pv 0)) (q_nil))) (q_int)) (q_one (q_call xo rfl rfl rfl DS t__law_is_name hr tk (by rfl) (q_cons (q_idx xo (q_var (pv 0)) (q_int)) (q_nil))))))) (q_snil))
    (q_seq (q_if (PW.pt (q_tor (q_tcmp (fun _ => (nin_ok xo)) (q_idx xo (q_var (pv 0)) (q_int)) (q_tup (q_cons (q_str) (q_cons (q_str) (q_cons (q_str) (q_cons (q_str) (q_nil))))))) (pw_or1 (q_tcmp (fun _ => (ne_ok xo.toXP)) (w_bi xo .len G.nb (by rfl) rfl (q_cons (q_var (pv 0)) (q_nil))) (q_int))))) (q_sone (q_ret (q_bl))) (q_snil))
    (q_seq (q_if (q_tcmp (fun _ => (eq_ok xo.toXP)) (q_idx xo (q_var (pv 0)) (q_int)) (q_str)) (q_sone (q_ret (q_and (q_call xo rfl rfl rfl DS t__law_is_name hr tk (by rfl) (q_cons (q_idx xo (q_var (pv 0)) (q_int)) (q_nil))) (q_one (q_call xo rfl rfl rfl DS t__law_is_term hr tk (by rfl) (q_cons (q_idx xo (q_var (pv 0)) (q_int)) (q_nil))))))) (q_snil))
    (q_seq (q_if (q_tcmp (fun _ => (eq_ok xo.toXP)) (q_idx xo (q_var (pv 0)) (q_int)) (q_str)) (q_sone (q_ret (q_and (q_call xo rfl rfl rfl DS t__law_is_term hr tk (by rfl) (q_cons (q_idx xo (q_var (pv 0)) (q_int)) (q_nil))) (q_one (q_call xo rfl rfl rfl DS t__law_is_term hr tk (by rfl) (q_cons (q_idx xo (q_var (pv 0)) (q_int)) (q_nil))))))) (q_snil))
    (q_seq (q_if (PW.pt (q_tor (q_tnot (q_tv (q_call xo rfl rfl rfl DS t__law_is_kind hr tk (by rfl) (q_cons (q_idx xo (q_var (pv 0)) (q_int)) (q_nil))))) (pw_or1 (q_tcmp (fun _ => (eq_ok xo.toXP)) (q_idx xo (q_var (pv 0)) (q_int)) (q_str))))) (q_sone (q_ret (q_and (q_call xo rfl rfl rfl DS t__law_is_kind hr tk (by rfl) (q_cons (q_idx xo (q_var (pv 0)) (q_int)) (q_nil))) (q_one (q_call xo rfl rfl rfl DS t__law_is_term hr tk (by rfl) (q_cons (q_idx xo (q_var (pv 0)) (q_int)) (q_nil))))))) (q_snil))
    (q_sone (q_ret (q_and (w_bi xo .isi G.nb (by rfl) rfl (q_cons (q_idx xo (q_var (pv 0)) (q_int)) (q_cons (w_ty xo (by rfl) G.z_tuple) (q_nil)))) (q_one (q_cmp (fun _ => (eq_ok xo.toXP)) (w_lc (fun _ => hands_frz) (own := [("_law_part", 1)]) xo (blkOk_by (N := ["_law_thing", "_law_part"]) (sc := defScope s__law_is_term) (by decide +kernel)) (q_it (q_idx xo (q_var (pv 0)) (q_int))) (fun _ _ _ _ _ => q_gn (pg_name (i := 1) (XO.blk (xo)).nd rfl (.inl rfl))) (fun _ _ _ _ _ => pts_one (q_tnot (q_tv (q_call (XO.blk (xo)) rfl rfl rfl DS t__law_is_term hr takes0 (by rfl) (q_cons (q_var (pv 1)) (q_nil)))))) (fun _ _ _ _ _ => q_var (pv 1))) (q_lst (q_nil))))))))))))
abbrev s__law_bent : Stmt := topS 32
theorem sc__law_bent : FnScope ["_law_bag_here", "_law_thing", "_law_at", "_law_way"] ["_law_bag_here", "_law_thing"] (defScope s__law_bent) := ⟨rfl, rfl, rfl, by decide +kernel, rfl, by decide +kernel, by decide +kernel⟩
theorem p__law_bent (G : GF P wo g) (DS : Defs P wo g base tab k) {f : Addr} (cdv : Value) (A : Around) (out : List Env) (s : Shared) (H : Hp) (E : XK) (hq : RmH k (A.deeper (envOfC "_law_bent" (defScope s__law_bent) s.heap.objs.size f cdv))) :
    PSs (bx P wo g base ["_law_bag_here", "_law_thing", "_law_at", "_law_way"] "_law_bent" (defScope s__law_bent) f cdv A out s H E) (defBody s__law_bent) (tS g (fun c d _ H => E c d H) (b__law_bent (callN tab k))) :=
  have hr := hq.toRmG
  have xo := bx_ok (P := P) (wo := wo) (g := g) (base := base) (out := out) (H := H) (E := E) sc__law_bent hr
  have tk : Takes (bx P wo g base ["_law_bag_here", "_law_thing", "_law_at", "_law_way"] "_law_bent" (defScope s__law_bent) f cdv A out s H E) (fun c d _ H => E c d H) := takes_of rfl rfl rfl rfl
  have po : PassesOwn (model P wo) (bx P wo g base ["_law_bag_here", "_law_thing", "_law_at", "_law_way"] "_law_bent" (defScope s__law_bent) f cdv A out s H E).A (bx P wo g base ["_law_bag_here", "_law_thing", "_law_at", "_law_way"] "_law_bent" (defScope s__law_bent) f cdv A out s H E).env (bx P wo g base ["_law_bag_here", "_law_thing", "_law_at", "_law_way"] "_law_bent" (defScope s__law_bent) f cdv A out s H E).xe := passes_of rfl
  q_seq (q_if (PW.pt (q_tor (q_tnot (q_tv (w_bi xo .isi G.nb (by rfl) rfl (q_cons (q_var (pv 1)) (q_cons (w_ty xo (by rfl) G.z_tuple) (q_nil)))))) (q_tor (q_tcmp (fun _ => eq0_ok xo.toXP) (q_var (pv 1)) (q_tup (q_nil))) (pw_or1 (q_tcmp (fun _ => (eq_ok xo.toXP)) (q_call xo rfl rfl rfl DS t__law_take hr tk (by rfl) (q_cons (q_var (pv 0)) (q_cons (q_int) (q_nil)))) (q_int)))))) (q_sone (q_ret (q_idx xo (q_lst (q_cons (q_call xo rfl rfl rfl DS t__law_odd_value hr tk (by rfl) (q_cons (q_var (pv 0)) (q_nil))) (q_cons (q_str) (q_cons (q_str) (q_cons (q_tup (q_cons (q_str) (q_cons (q_str) (q_nil)))) (q_cons (q_tup (q_cons (q_str) (q_cons (q_str) (q_cons (q_tup (q_cons (q_str) (q_cons (q_str) (q_nil)))) (q_nil))))) (q_nil))))))) (q_call xo rfl rfl rfl DS t__law_take hr tk (by rfl) (q_cons (q_var (pv 0)) (q_cons (q_int) (q_nil))))))) (q_snil))
    (q_seq (w_par xo rfl rfl (by decide) rfl rfl (q_cons (q_call xo rfl rfl rfl DS t__law_take hr tk (by rfl) (q_cons (q_var (pv 0)) (q_cons (w_bi xo .len G.nb (by rfl) rfl (q_cons (q_var (pv 1)) (q_nil))) (q_nil)))) (q_cons (q_call xo rfl rfl rfl DS t__law_take hr tk (by rfl) (q_cons (q_var (pv 0)) (q_cons (q_int) (q_nil)))) (q_nil))) rfl)
    (q_seq (q_if (q_tcmp (fun _ => (eq_ok xo.toXP)) (q_var (pv 3)) (q_int)) (q_sone (q_ret (q_bin (fun _ => add_ok) (q_var (pv 1)) (q_tup (q_cons (q_idx xo (q_var (pv 1)) (q_var (pv 2))) (q_nil)))))) (q_snil))
    (q_seq (q_if (q_tcmp (fun _ => (eq_ok xo.toXP)) (q_var (pv 3)) (q_int)) (q_sone (q_ret (q_bin (fun _ => add_ok) (q_slc xo (q_var (pv 1)) (q_no) (q_some (q_var (pv 2)))) (q_slc xo (q_var (pv 1)) (q_some (q_bin (fun _ => add_ok) (q_var (pv 2)) (q_int))) (q_no))))) (q_snil))
    (q_seq (q_if (q_tcmp (fun _ => (eq_ok xo.toXP)) (q_var (pv 3)) (q_int)) (q_sone (q_ret (w_bi xo .list G.nb (by rfl) rfl (q_cons (q_var (pv 1)) (q_nil))))) (q_snil))
    (q_sone (q_ret (q_bin (fun _ => add_ok) (q_bin (fun _ => add_ok) (q_slc xo (q_var (pv 1)) (q_no) (q_some (q_var (pv 2)))) (q_tup (q_cons (q_call xo rfl rfl rfl DS t__law_bent hr tk (by rfl) (q_cons (q_var (pv 0)) (q_cons (q_idx xo (q_var (pv 1)) (q_var (pv 2))) (q_nil)))) (q_nil)))) (q_slc xo (q_var (pv 1)) (q_some (q_bin (fun _ => add_ok) (q_var (pv 2)) (q_int))) (q_no)))))))))
abbrev s_law : Stmt := topS 33
theorem sc_law : FnScope ["_law_script", "_law_bag_here", "_law_turn", "_law_names_here", "_law_signature_here", "_law_thing", "_law_again", "_law_kept", "_law_due", "_law_found", "_law_told", "_law_kind_here", "_law_wanted_places"] ["_law_script"] (defScope s_law) := ⟨rfl, rfl, rfl, by decide +kernel, rfl, by decide +kernel, by decide +kernel⟩
theorem p_law (G : GF P wo g) (DS : Defs P wo g base tab k) {f : Addr} {c0 P0 : Addr} (A : Around) (out : List Env) (s : Shared) (H : Hp) (E : XK) (hq : RmH k (A.deeper (envOfC "law" (defScope s_law) s.heap.objs.size f (.ref c0)))) (TB : LamX.TabB base g.mg c0 P0) (hT : g.T = [(P0, ("law.<locals>.<lambda>" : Str))]) :
    PSs (bx P wo g base ["_law_script", "_law_bag_here", "_law_turn", "_law_names_here", "_law_signature_here", "_law_thing", "_law_again", "_law_kept", "_law_due", "_law_found", "_law_told", "_law_kind_here", "_law_wanted_places"] "law" (defScope s_law) f (.ref c0) A out s H E) (defBody s_law) (tS g (fun c d _ H => E c d H) (b_law (callN tab k))) :=
  have hr := hq.toRmG
  have xo := bx_ok (P := P) (wo := wo) (g := g) (base := base) (out := out) (H := H) (E := E) sc_law hr
  have tk : Takes (bx P wo g base ["_law_script", "_law_bag_here", "_law_turn", "_law_names_here", "_law_signature_here", "_law_thing", "_law_again", "_law_kept", "_law_due", "_law_found", "_law_told", "_law_kind_here", "_law_wanted_places"] "law" (defScope s_law) f (.ref c0) A out s H E) (fun c d _ H => E c d H) := takes_of rfl rfl rfl rfl
  have po : PassesOwn (model P wo) (bx P wo g base ["_law_script", "_law_bag_here", "_law_turn", "_law_names_here", "_law_signature_here", "_law_thing", "_law_again", "_law_kept", "_law_due", "_law_found", "_law_told", "_law_kind_here", "_law_wanted_places"] "law" (defScope s_law) f (.ref c0) A out s H E).A (bx P wo g base ["_law_script", "_law_bag_here", "_law_turn", "_law_names_here", "_law_signature_here", "_law_thing", "_law_again", "_law_kept", "_law_due", "_law_found", "_law_told", "_law_kind_here", "_law_wanted_places"] "law" (defScope s_law) f (.ref c0) A out s H E).env (bx P wo g base ["_law_script", "_law_bag_here", "_law_turn", "_law_names_here", "_law_signature_here", "_law_thing", "_law_again", "_law_kept", "_law_due", "_law_found", "_law_told", "_law_kind_here", "_law_wanted_places"] "law" (defScope s_law) f (.ref c0) A out s H E).xe := passes_of rfl
  q_seq (w_set xo rfl (.inl rfl) (q_call xo rfl rfl rfl DS t__law_bag hr tk (by rfl) (q_cons (q_var (pv 0)) (q_nil))))
    (q_seq (w_for xo po (w_rng1 xo (by rfl) G.z_range (q_cons (q_int) (q_nil))) (q_gn (pg_name (i := 2) xo.nd rfl (.inl rfl))) (q_seq (w_set xo rfl (.inl rfl) (q_call xo rfl rfl rfl DS t__law_names hr tk (by rfl) (q_cons (q_var (pv 1)) (q_cons (q_int) (q_nil)))))
    (q_seq (w_set xo rfl (.inr rfl) (q_call xo rfl rfl rfl DS t__law_signature hr tk (by rfl) (q_cons (q_var (pv 1)) (q_cons (q_var (pv 3)) (q_nil)))))
    (q_seq (w_set xo rfl (.inr rfl) (q_idx xo (q_call xo rfl rfl rfl DS t__law_term hr tk (by rfl) (q_cons (q_var (pv 1)) (q_cons (q_var (pv 3)) (q_cons (q_var (pv 4)) (q_cons (q_int) (q_nil)))))) (q_int)))
    (q_seq (w_for xo po (w_rng1 xo (by rfl) G.z_range (q_cons (q_idx xo (q_lst (q_cons (q_int) (q_cons (q_int) (q_cons (q_int) (q_cons (q_int) (q_nil)))))) (q_call xo rfl rfl rfl DS t__law_take hr tk (by rfl) (q_cons (q_var (pv 1)) (q_cons (q_int) (q_nil))))) (q_nil))) (q_gn (pg_name (i := 6) xo.nd rfl (.inl rfl))) (q_sone (w_set xo rfl (.inr rfl) (q_call xo rfl rfl rfl DS t__law_bent hr tk (by rfl) (q_cons (q_var (pv 1)) (q_cons (q_var (pv 5)) (q_nil)))))))
    (q_seq (w_par xo rfl rfl (by decide) rfl rfl (q_cons (w_bi xo .repr G.nb (by rfl) rfl (q_cons (q_lst (q_cons (q_var (pv 5)) (q_cons (q_var (pv 4)) (q_nil)))) (q_nil))) (q_cons (q_call xo rfl rfl rfl DS t__law_is_term hr tk (by rfl) (q_cons (q_var (pv 5)) (q_nil))) (q_nil))) rfl)
    (q_sone (w_for xo po (w_rng1 xo (by rfl) G.z_range (q_cons (q_int) (q_nil))) (q_gn (pg_name (i := 6) xo.nd rfl (.inl rfl))) (q_seq (q_if (PW.pt (q_tor (q_tnot (q_tv (q_call xo rfl rfl rfl DS t__law_alike hr tk (by rfl) (q_cons (q_call xo rfl rfl rfl DS t_is_term hr tk (by rfl) (q_cons (q_var (pv 5)) (q_nil))) (q_cons (q_var (pv 8)) (q_nil)))))) (pw_or1 (q_tcmp (fun _ => (ne_ok xo.toXP)) (w_bi xo .repr G.nb (by rfl) rfl (q_cons (q_lst (q_cons (q_var (pv 5)) (q_cons (q_var (pv 4)) (q_nil)))) (q_nil))) (q_var (pv 7)))))) (q_sone (q_ret (q_bl))) (q_snil))
    (q_sone (q_if (q_tv (q_var (pv 8))) (q_seq (q_asg (ps_asg (q_call xo rfl rfl rfl DS t__law_looked hr tk (by rfl) (q_cons (q_var (pv 4)) (q_cons (q_var (pv 5)) (q_nil)))) (q_gt2 (pg_tup rfl (pgs_cons (pg_name (i := 11) xo.nd rfl (.inl rfl)) (pgs_cons (pg_name (i := 12) xo.nd rfl (.inl rfl)) (pgs_nil)))))))
    (q_seq (w_set xo rfl (.inl rfl) (h_raised G xo tk hq (by rfl) (LamX.lamS_by (sc := defScope s_law) (by decide +kernel)) rfl (fun _ _ _ _ _ => rfl) (fun _ _ _ _ _ _ _ hl => q_call (lam_xo xo hl) rfl rfl rfl DS t_kind_of hl lam_tk (by rfl) (q_cons (q_var (pv 4)) (q_cons (q_var (pv 5)) (q_nil)))) TB rfl hT))
    (q_seq (w_set xo rfl (.inl rfl) (h_raised G xo tk hq (by rfl) (LamX.lamS_by (sc := defScope s_law) (by decide +kernel)) rfl (fun _ _ _ _ _ => rfl) (fun _ _ _ _ _ _ _ hl => q_call (lam_xo xo hl) rfl rfl rfl DS t_places hl lam_tk (by rfl) (q_cons (q_var (pv 4)) (q_cons (q_var (pv 5)) (q_nil)))) TB rfl hT))
    (q_seq (q_if (q_tcmp (fun _ => is_ok) (q_var (pv 12)) (q_non)) (q_sone (q_if (q_tnot (q_tv (q_call xo rfl rfl rfl DS t__law_alike hr tk (by rfl) (q_cons (q_lst (q_cons (q_var (pv 9)) (q_cons (q_var (pv 10)) (q_nil)))) (q_cons (q_bin (fun _ => mul_ok) (q_lst (q_cons (q_tup (q_cons (q_str) (q_cons (q_lst (q_cons (q_int) (q_nil))) (q_cons (q_lst (q_cons (q_var (pv 11)) (q_nil))) (q_nil))))) (q_nil))) (q_int)) (q_nil)))))) (q_sone (q_ret (q_bl))) (q_snil))) (q_sone (q_if (q_tnot (q_tv (q_call xo rfl rfl rfl DS t__law_alike hr tk (by rfl) (q_cons (q_lst (q_cons (q_var (pv 9)) (q_cons (q_var (pv 10)) (q_nil)))) (q_cons (q_lst (q_cons (q_tup (q_cons (q_str) (q_cons (q_var (pv 11)) (q_nil)))) (q_cons (q_tup (q_cons (q_str) (q_cons (q_var (pv 12)) (q_nil)))) (q_nil)))) (q_nil)))))) (q_sone (q_ret (q_bl))) (q_sone (w_expr (q_m (fun a b => pe_bm PySem.F.plainAttrs_list PySem.F.slot_list_append PySem.F.type_list_append mt_append a b) (q_idx xo (q_var (pv 10)) (q_int)) (q_cons (q_str) (q_nil)) (fun _ _ _ _ _ _ _ _ _ hr rv rvs q => app_r hr rv rvs q)))))))
    (q_sone (q_if (q_tcmp (fun _ => (ne_ok xo.toXP)) (w_bi xo .repr G.nb (by rfl) rfl (q_cons (q_lst (q_cons (q_var (pv 5)) (q_cons (q_var (pv 4)) (q_nil)))) (q_nil))) (q_var (pv 7))) (q_sone (q_ret (q_bl))) (q_snil))))))) (q_snil))))))))))))
    (q_sone (q_ret (q_bl))))
end
end K90
namespace K90
open PySem PySem.Spec PyProof.Rows L2 Bx
section
variable {P : Program} {wo : World} {g : Gx} {base : Heap}
theorem r_is_name (G : GF P wo g) {f : Addr} {fdat : FuncData} (F : Fun g.K "is_name" "is_name" s_is_name f fdat) (hm : g.mg "is_name" = some (.ref f)) : Row P wo g base tab "is_name" fd_is_name :=
  ⟨f, fdat, ["thing"], hm, F.kp, F.binds (ps := ["thing"]) (fun _ _ _ _ _ _ us hl => match us, hl with | [_], _ => rfl), rfl, fun k DS => fnG_of F sc_is_name rfl rfl (fun cdv A out s H E hr => p_is_name G DS cdv A out s H E hr) t_is_name⟩
theorem r_is_word (G : GF P wo g) {f : Addr} {fdat : FuncData} (F : Fun g.K "is_word" "is_word" s_is_word f fdat) (hm : g.mg "is_word" = some (.ref f)) : Row P wo g base tab "is_word" fd_is_word :=
  ⟨f, fdat, ["thing"], hm, F.kp, F.binds (ps := ["thing"]) (fun _ _ _ _ _ _ us hl => match us, hl with | [_], _ => rfl), rfl, fun k DS => fnG_of F sc_is_word rfl rfl (fun cdv A out s H E hr => p_is_word G DS cdv A out s H E hr) t_is_word⟩
theorem r_is_kind (G : GF P wo g) {f : Addr} {fdat : FuncData} (F : Fun g.K "is_kind" "is_kind" s_is_kind f fdat) (hm : g.mg "is_kind" = some (.ref f)) : Row P wo g base tab "is_kind" fd_is_kind :=
  ⟨f, fdat, ["thing"], hm, F.kp, F.binds (ps := ["thing"]) (fun _ _ _ _ _ _ us hl => match us, hl with | [_], _ => rfl), rfl, fun k DS => fnG_of F sc_is_kind rfl rfl (fun cdv A out s H E hr => p_is_kind G DS cdv A out s H E hr) t_is_kind⟩
theorem r_is_term (G : GF P wo g) {f : Addr} {fdat : FuncData} (F : Fun g.K "is_term" "is_term" s_is_term f fdat) (hm : g.mg "is_term" = some (.ref f)) : Row P wo g base tab "is_term" fd_is_term :=
  ⟨f, fdat, ["thing"], hm, F.kp, F.binds (ps := ["thing"]) (fun _ _ _ _ _ _ us hl => match us, hl with | [_], _ => rfl), rfl, fun k DS => fnG_of F sc_is_term rfl rfl (fun cdv A out s H E hr => p_is_term G DS cdv A out s H E hr) t_is_term⟩
theorem r_looked (G : GF P wo g) {f : Addr} {fdat : FuncData} (F : Fun g.K "looked" "looked" s_looked f fdat) (hm : g.mg "looked" = some (.ref f)) : Row P wo g base tab "looked" fd_looked :=
  ⟨f, fdat, ["signature", "term", "found"], hm, F.kp, F.binds (ps := ["signature", "term", "found"]) (fun _ _ _ _ _ _ us hl => match us, hl with | [_, _, _], _ => rfl), rfl, fun k DS => fnG_of F sc_looked rfl rfl (fun cdv A out s H E hr => p_looked G DS cdv A out s H E hr) t_looked⟩
theorem r_kind_of (G : GF P wo g) {f : Addr} {fdat : FuncData} (F : Fun g.K "kind_of" "kind_of" s_kind_of f fdat) (hm : g.mg "kind_of" = some (.ref f)) : Row P wo g base tab "kind_of" fd_kind_of :=
  ⟨f, fdat, ["signature", "term"], hm, F.kp, F.binds (ps := ["signature", "term"]) (fun _ _ _ _ _ _ us hl => match us, hl with | [_, _], _ => rfl), rfl, fun k DS => fnG_of F sc_kind_of rfl rfl (fun cdv A out s H E hr => p_kind_of G DS cdv A out s H E hr) t_kind_of⟩
theorem r_places (G : GF P wo g) {f : Addr} {fdat : FuncData} (F : Fun g.K "places" "places" s_places f fdat) (hm : g.mg "places" = some (.ref f)) : Row P wo g base tab "places" fd_places :=
  ⟨f, fdat, ["signature", "term"], hm, F.kp, F.binds (ps := ["signature", "term"]) (fun _ _ _ _ _ _ us hl => match us, hl with | [_, _], _ => rfl), rfl, fun k DS => fnG_of F sc_places rfl rfl (fun cdv A out s H E hr => p_places G DS cdv A out s H E hr) t_places⟩
theorem r__law_bag (G : GF P wo g) {f : Addr} {fdat : FuncData} (F : Fun g.K "_law_bag" "_law_bag" s__law_bag f fdat) (hm : g.mg "_law_bag" = some (.ref f)) : Row P wo g base tab "_law_bag" fd__law_bag :=
  ⟨f, fdat, ["_law_script"], hm, F.kp, F.binds (ps := ["_law_script"]) (fun _ _ _ _ _ _ us hl => match us, hl with | [_], _ => rfl), rfl, fun k DS => fnG_of F sc__law_bag rfl rfl (fun cdv A out s H E hr => p__law_bag G DS cdv A out s H E hr) t__law_bag⟩
theorem r__law_take (G : GF P wo g) {f : Addr} {fdat : FuncData} (F : Fun g.K "_law_take" "_law_take" s__law_take f fdat) (hm : g.mg "_law_take" = some (.ref f)) : Row P wo g base tab "_law_take" fd__law_take :=
  ⟨f, fdat, ["_law_bag_here", "_law_many"], hm, F.kp, F.binds (ps := ["_law_bag_here", "_law_many"]) (fun _ _ _ _ _ _ us hl => match us, hl with | [_, _], _ => rfl), rfl, fun k DS => fnG_of F sc__law_take rfl rfl (fun cdv A out s H E hr => p__law_take G DS cdv A out s H E hr) t__law_take⟩
theorem r__law_alike (G : GF P wo g) {f : Addr} {fdat : FuncData} (F : Fun g.K "_law_alike" "_law_alike" s__law_alike f fdat) (hm : g.mg "_law_alike" = some (.ref f)) : Row P wo g base tab "_law_alike" fd__law_alike :=
  ⟨f, fdat, ["_law_found", "_law_due"], hm, F.kp, F.binds (ps := ["_law_found", "_law_due"]) (fun _ _ _ _ _ _ us hl => match us, hl with | [_, _], _ => rfl), rfl, fun k DS => fnG_of F sc__law_alike rfl rfl (fun cdv A out s H E hr => p__law_alike G DS cdv A out s H E hr) t__law_alike⟩
theorem r__law_one (G : GF P wo g) {f : Addr} {fdat : FuncData} (F : Fun g.K "_law_one" "_law_one" s__law_one f fdat) (hm : g.mg "_law_one" = some (.ref f)) : Row P wo g base tab "_law_one" fd__law_one :=
  ⟨f, fdat, ["_law_bag_here", "_law_things"], hm, F.kp, F.binds (ps := ["_law_bag_here", "_law_things"]) (fun _ _ _ _ _ _ us hl => match us, hl with | [_, _], _ => rfl), rfl, fun k DS => fnG_of F sc__law_one rfl rfl (fun cdv A out s H E hr => p__law_one G DS cdv A out s H E hr) t__law_one⟩
theorem r__law_names (G : GF P wo g) {f : Addr} {fdat : FuncData} (F : Fun g.K "_law_names" "_law_names" s__law_names f fdat) (hm : g.mg "_law_names" = some (.ref f)) : Row P wo g base tab "_law_names" fd__law_names :=
  ⟨f, fdat, ["_law_bag_here", "_law_many"], hm, F.kp, F.binds (ps := ["_law_bag_here", "_law_many"]) (fun _ _ _ _ _ _ us hl => match us, hl with | [_, _], _ => rfl), rfl, fun k DS => fnG_of F sc__law_names rfl rfl (fun cdv A out s H E hr => p__law_names G DS cdv A out s H E hr) t__law_names⟩
theorem r__law_kind (G : GF P wo g) {f : Addr} {fdat : FuncData} (F : Fun g.K "_law_kind" "_law_kind" s__law_kind f fdat) (hm : g.mg "_law_kind" = some (.ref f)) : Row P wo g base tab "_law_kind" fd__law_kind :=
  ⟨f, fdat, ["_law_bag_here", "_law_names_here", "_law_upto"], hm, F.kp, F.binds (ps := ["_law_bag_here", "_law_names_here", "_law_upto"]) (fun _ _ _ _ _ _ us hl => match us, hl with | [_, _, _], _ => rfl), rfl, fun k DS => fnG_of F sc__law_kind rfl rfl (fun cdv A out s H E hr => p__law_kind G DS cdv A out s H E hr) t__law_kind⟩
theorem r__law_any_kind (G : GF P wo g) {f : Addr} {fdat : FuncData} (F : Fun g.K "_law_any_kind" "_law_any_kind" s__law_any_kind f fdat) (hm : g.mg "_law_any_kind" = some (.ref f)) : Row P wo g base tab "_law_any_kind" fd__law_any_kind :=
  ⟨f, fdat, ["_law_bag_here", "_law_names_here", "_law_upto"], hm, F.kp, F.binds (ps := ["_law_bag_here", "_law_names_here", "_law_upto"]) (fun _ _ _ _ _ _ us hl => match us, hl with | [_, _, _], _ => rfl), rfl, fun k DS => fnG_of F sc__law_any_kind rfl rfl (fun cdv A out s H E hr => p__law_any_kind G DS cdv A out s H E hr) t__law_any_kind⟩
theorem r__law_size (G : GF P wo g) {f : Addr} {fdat : FuncData} (F : Fun g.K "_law_size" "_law_size" s__law_size f fdat) (hm : g.mg "_law_size" = some (.ref f)) : Row P wo g base tab "_law_size" fd__law_size :=
  ⟨f, fdat, ["_law_kind_here"], hm, F.kp, F.binds (ps := ["_law_kind_here"]) (fun _ _ _ _ _ _ us hl => match us, hl with | [_], _ => rfl), rfl, fun k DS => fnG_of F sc__law_size rfl rfl (fun cdv A out s H E hr => p__law_size G DS cdv A out s H E hr) t__law_size⟩
theorem r__law_odd_value (G : GF P wo g) {f : Addr} {fdat : FuncData} (F : Fun g.K "_law_odd_value" "_law_odd_value" s__law_odd_value f fdat) (hm : g.mg "_law_odd_value" = some (.ref f)) : Row P wo g base tab "_law_odd_value" fd__law_odd_value :=
  ⟨f, fdat, ["_law_bag_here"], hm, F.kp, F.binds (ps := ["_law_bag_here"]) (fun _ _ _ _ _ _ us hl => match us, hl with | [_], _ => rfl), rfl, fun k DS => fnG_of F sc__law_odd_value rfl rfl (fun cdv A out s H E hr => p__law_odd_value G DS cdv A out s H E hr) t__law_odd_value⟩
theorem r__law_term (G : GF P wo g) {f : Addr} {fdat : FuncData} (F : Fun g.K "_law_term" "_law_term" s__law_term f fdat) (hm : g.mg "_law_term" = some (.ref f)) : Row P wo g base tab "_law_term" fd__law_term :=
  ⟨f, fdat, ["_law_bag_here", "_law_names_here", "_law_signature_here", "_law_deep"], hm, F.kp, F.binds (ps := ["_law_bag_here", "_law_names_here", "_law_signature_here", "_law_deep"]) (fun _ _ _ _ _ _ us hl => match us, hl with | [_, _, _, _], _ => rfl), rfl, fun k DS => fnG_of F sc__law_term rfl rfl (fun cdv A out s H E hr => p__law_term G DS cdv A out s H E hr) t__law_term⟩
theorem r__law_signature (G : GF P wo g) {f : Addr} {fdat : FuncData} (F : Fun g.K "_law_signature" "_law_signature" s__law_signature f fdat) (hm : g.mg "_law_signature" = some (.ref f)) : Row P wo g base tab "_law_signature" fd__law_signature :=
  ⟨f, fdat, ["_law_bag_here", "_law_names_here"], hm, F.kp, F.binds (ps := ["_law_bag_here", "_law_names_here"]) (fun _ _ _ _ _ _ us hl => match us, hl with | [_, _], _ => rfl), rfl, fun k DS => fnG_of F sc__law_signature rfl rfl (fun cdv A out s H E hr => p__law_signature G DS cdv A out s H E hr) t__law_signature⟩
theorem r__law_looked (G : GF P wo g) {f : Addr} {fdat : FuncData} (F : Fun g.K "_law_looked" "_law_looked" s__law_looked f fdat) (hm : g.mg "_law_looked" = some (.ref f)) : Row P wo g base tab "_law_looked" fd__law_looked :=
  ⟨f, fdat, ["_law_signature_here", "_law_term_here"], hm, F.kp, F.binds (ps := ["_law_signature_here", "_law_term_here"]) (fun _ _ _ _ _ _ us hl => match us, hl with | [_, _], _ => rfl), rfl, fun k DS => fnG_of F sc__law_looked rfl rfl (fun cdv A out s H E hr => p__law_looked G DS cdv A out s H E hr) t__law_looked⟩
theorem r__law_is_name (G : GF P wo g) {f : Addr} {fdat : FuncData} (F : Fun g.K "_law_is_name" "_law_is_name" s__law_is_name f fdat) (hm : g.mg "_law_is_name" = some (.ref f)) : Row P wo g base tab "_law_is_name" fd__law_is_name :=
  ⟨f, fdat, ["_law_thing"], hm, F.kp, F.binds (ps := ["_law_thing"]) (fun _ _ _ _ _ _ us hl => match us, hl with | [_], _ => rfl), rfl, fun k DS => fnG_of F sc__law_is_name rfl rfl (fun cdv A out s H E hr => p__law_is_name G DS cdv A out s H E hr) t__law_is_name⟩
theorem r__law_is_kind (G : GF P wo g) {f : Addr} {fdat : FuncData} (F : Fun g.K "_law_is_kind" "_law_is_kind" s__law_is_kind f fdat) (hm : g.mg "_law_is_kind" = some (.ref f)) : Row P wo g base tab "_law_is_kind" fd__law_is_kind :=
  ⟨f, fdat, ["_law_thing"], hm, F.kp, F.binds (ps := ["_law_thing"]) (fun _ _ _ _ _ _ us hl => match us, hl with | [_], _ => rfl), rfl, fun k DS => fnG_of F sc__law_is_kind rfl rfl (fun cdv A out s H E hr => p__law_is_kind G DS cdv A out s H E hr) t__law_is_kind⟩
theorem r__law_is_term (G : GF P wo g) {f : Addr} {fdat : FuncData} (F : Fun g.K "_law_is_term" "_law_is_term" s__law_is_term f fdat) (hm : g.mg "_law_is_term" = some (.ref f)) : Row P wo g base tab "_law_is_term" fd__law_is_term :=
  ⟨f, fdat, ["_law_thing"], hm, F.kp, F.binds (ps := ["_law_thing"]) (fun _ _ _ _ _ _ us hl => match us, hl with | [_], _ => rfl), rfl, fun k DS => fnG_of F sc__law_is_term rfl rfl (fun cdv A out s H E hr => p__law_is_term G DS cdv A out s H E hr) t__law_is_term⟩
theorem r__law_bent (G : GF P wo g) {f : Addr} {fdat : FuncData} (F : Fun g.K "_law_bent" "_law_bent" s__law_bent f fdat) (hm : g.mg "_law_bent" = some (.ref f)) : Row P wo g base tab "_law_bent" fd__law_bent :=
  ⟨f, fdat, ["_law_bag_here", "_law_thing"], hm, F.kp, F.binds (ps := ["_law_bag_here", "_law_thing"]) (fun _ _ _ _ _ _ us hl => match us, hl with | [_, _], _ => rfl), rfl, fun k DS => fnG_of F sc__law_bent rfl rfl (fun cdv A out s H E hr => p__law_bent G DS cdv A out s H E hr) t__law_bent⟩
theorem r_law (G : GF P wo g) {f c0 P0 : Addr} {oc kV dc pm ct : Value} {od an : Option Addr} {sl : Array (Option Value)} (lk : g.K.lookup f = some ⟨oc, od, .func (PySem.W.fnOf "law" "law" (defArgs s_law) (defBody s_law) (defScope s_law) .none kV dc pm an (.ref c0) ct), sl⟩) (c : PySem.W.codeIn g.K (.ref c0) "law" = true) (kk : PySem.W.keepIn g.K (.ref f) = true)
    (hm : g.mg "law" = some (.ref f)) (TB : LamX.TabB base g.mg c0 P0) (hT : g.T = [(P0, ("law.<locals>.<lambda>" : Str))]) : Row P wo g base tab "law" fd_law :=
  ⟨f, _, ["_law_script"], hm, kk, (fun_mk lk c kk).binds (ps := ["_law_script"]) (fun _ _ _ _ _ _ us hl => match us, hl with | [_], _ => rfl), rfl, fun k DS => fnG_cd lk c sc_law rfl rfl (fun A out s H E hr => p_law G DS A out s H E hr TB hT) t_law⟩
end
structure FF (K : PySem.W.Frag) (x : Str) (st : Stmt) : Prop where
  ex : ∃ (f : Addr) (fdat : FuncData), PySem.W.nsIn K mainGlobals x = some (some (.ref f)) ∧ Fun K x x st f fdat
theorem ff_mk {K : PySem.W.Frag} {x : Str} {st : Stmt} {f : Addr} {oc : Value} {od an : Option Addr} {osl : Array (Option Value)} {kV doc pm cdv ct : Value} (a : PySem.W.nsIn K mainGlobals x = some (some (.ref f))) (l : K.lookup f = some ⟨oc, od, .func (PySem.W.fnOf x x (defArgs st) (defBody st) (defScope st) .none kV doc pm an cdv ct), osl⟩)
    (c : PySem.W.codeIn K cdv x = true) (k : PySem.W.keepIn K (.ref f) = true) : FF K x st := ⟨f, _, a, fun_mk l c k⟩
theorem row_if {P : Program} {wo : World} {g : Gx} {base : Heap} {n x : Str} {fd0 fd : Fd} {r : Option Fd} (h : Row P wo g base tab n fd0) (hr : r = some fd → Row P wo g base tab x fd) (e : (if x = n then some fd0 else r) = some fd) : Row P wo g base tab x fd := by
  by_cases q : x = n
  · rw [if_pos q] at e; rw [q, ← Option.some.inj e]; exact h
  · rw [if_neg q] at e; exact hr e
theorem rows {P : Program} {wo : World} {g : Gx} {base h : Heap} (G : GF P wo g) (X : g.K.In h) (N : h.Ns mainGlobals g.mg)
    (h_is_name : FF g.K "is_name" s_is_name)
    (h_is_word : FF g.K "is_word" s_is_word)
    (h_is_kind : FF g.K "is_kind" s_is_kind)
    (h_is_term : FF g.K "is_term" s_is_term)
    (h_looked : FF g.K "looked" s_looked)
    (h_kind_of : FF g.K "kind_of" s_kind_of)
    (h_places : FF g.K "places" s_places)
    (h__law_bag : FF g.K "_law_bag" s__law_bag)
    (h__law_take : FF g.K "_law_take" s__law_take)
    (h__law_alike : FF g.K "_law_alike" s__law_alike)
    (h__law_one : FF g.K "_law_one" s__law_one)
    (h__law_names : FF g.K "_law_names" s__law_names)
    (h__law_kind : FF g.K "_law_kind" s__law_kind)
    (h__law_any_kind : FF g.K "_law_any_kind" s__law_any_kind)
    (h__law_size : FF g.K "_law_size" s__law_size)
    (h__law_odd_value : FF g.K "_law_odd_value" s__law_odd_value)
    (h__law_term : FF g.K "_law_term" s__law_term)
    (h__law_signature : FF g.K "_law_signature" s__law_signature)
    (h__law_looked : FF g.K "_law_looked" s__law_looked)
    (h__law_is_name : FF g.K "_law_is_name" s__law_is_name)
    (h__law_is_kind : FF g.K "_law_is_kind" s__law_is_kind)
    (h__law_is_term : FF g.K "_law_is_term" s__law_is_term)
    (h__law_bent : FF g.K "_law_bent" s__law_bent)
    (q_law : Row P wo g base tab "law" fd_law)
    : ∀ x fd, tab x = some fd → Row P wo g base tab x fd := by
  have q_is_name : Row P wo g base tab "is_name" fd_is_name := by obtain ⟨f, fdat, a, F⟩ := h_is_name.ex; exact r_is_name G F (PySem.W.mg_of X N a)
  have q_is_word : Row P wo g base tab "is_word" fd_is_word := by obtain ⟨f, fdat, a, F⟩ := h_is_word.ex; exact r_is_word G F (PySem.W.mg_of X N a)
  have q_is_kind : Row P wo g base tab "is_kind" fd_is_kind := by obtain ⟨f, fdat, a, F⟩ := h_is_kind.ex; exact r_is_kind G F (PySem.W.mg_of X N a)
  have q_is_term : Row P wo g base tab "is_term" fd_is_term := by obtain ⟨f, fdat, a, F⟩ := h_is_term.ex; exact r_is_term G F (PySem.W.mg_of X N a)
  have q_looked : Row P wo g base tab "looked" fd_looked := by obtain ⟨f, fdat, a, F⟩ := h_looked.ex; exact r_looked G F (PySem.W.mg_of X N a)
  have q_kind_of : Row P wo g base tab "kind_of" fd_kind_of := by obtain ⟨f, fdat, a, F⟩ := h_kind_of.ex; exact r_kind_of G F (PySem.W.mg_of X N a)
  have q_places : Row P wo g base tab "places" fd_places := by obtain ⟨f, fdat, a, F⟩ := h_places.ex; exact r_places G F (PySem.W.mg_of X N a)
  have q__law_bag : Row P wo g base tab "_law_bag" fd__law_bag := by obtain ⟨f, fdat, a, F⟩ := h__law_bag.ex; exact r__law_bag G F (PySem.W.mg_of X N a)
  have q__law_take : Row P wo g base tab "_law_take" fd__law_take := by obtain ⟨f, fdat, a, F⟩ := h__law_take.ex; exact r__law_take G F (PySem.W.mg_of X N a)
  have q__law_alike : Row P wo g base tab "_law_alike" fd__law_alike := by obtain ⟨f, fdat, a, F⟩ := h__law_alike.ex; exact r__law_alike G F (PySem.W.mg_of X N a)
  have q__law_one : Row P wo g base tab "_law_one" fd__law_one := by obtain ⟨f, fdat, a, F⟩ := h__law_one.ex; exact r__law_one G F (PySem.W.mg_of X N a)
  have q__law_names : Row P wo g base tab "_law_names" fd__law_names := by obtain ⟨f, fdat, a, F⟩ := h__law_names.ex; exact r__law_names G F (PySem.W.mg_of X N a)
  have q__law_kind : Row P wo g base tab "_law_kind" fd__law_kind := by obtain ⟨f, fdat, a, F⟩ := h__law_kind.ex; exact r__law_kind G F (PySem.W.mg_of X N a)
  have q__law_any_kind : Row P wo g base tab "_law_any_kind" fd__law_any_kind := by obtain ⟨f, fdat, a, F⟩ := h__law_any_kind.ex; exact r__law_any_kind G F (PySem.W.mg_of X N a)
  have q__law_size : Row P wo g base tab "_law_size" fd__law_size := by obtain ⟨f, fdat, a, F⟩ := h__law_size.ex; exact r__law_size G F (PySem.W.mg_of X N a)
  have q__law_odd_value : Row P wo g base tab "_law_odd_value" fd__law_odd_value := by obtain ⟨f, fdat, a, F⟩ := h__law_odd_value.ex; exact r__law_odd_value G F (PySem.W.mg_of X N a)
  have q__law_term : Row P wo g base tab "_law_term" fd__law_term := by obtain ⟨f, fdat, a, F⟩ := h__law_term.ex; exact r__law_term G F (PySem.W.mg_of X N a)
  have q__law_signature : Row P wo g base tab "_law_signature" fd__law_signature := by obtain ⟨f, fdat, a, F⟩ := h__law_signature.ex; exact r__law_signature G F (PySem.W.mg_of X N a)
  have q__law_looked : Row P wo g base tab "_law_looked" fd__law_looked := by obtain ⟨f, fdat, a, F⟩ := h__law_looked.ex; exact r__law_looked G F (PySem.W.mg_of X N a)
  have q__law_is_name : Row P wo g base tab "_law_is_name" fd__law_is_name := by obtain ⟨f, fdat, a, F⟩ := h__law_is_name.ex; exact r__law_is_name G F (PySem.W.mg_of X N a)
  have q__law_is_kind : Row P wo g base tab "_law_is_kind" fd__law_is_kind := by obtain ⟨f, fdat, a, F⟩ := h__law_is_kind.ex; exact r__law_is_kind G F (PySem.W.mg_of X N a)
  have q__law_is_term : Row P wo g base tab "_law_is_term" fd__law_is_term := by obtain ⟨f, fdat, a, F⟩ := h__law_is_term.ex; exact r__law_is_term G F (PySem.W.mg_of X N a)
  have q__law_bent : Row P wo g base tab "_law_bent" fd__law_bent := by obtain ⟨f, fdat, a, F⟩ := h__law_bent.ex; exact r__law_bent G F (PySem.W.mg_of X N a)
  intro x fd e
  exact row_if q_is_name (row_if q_is_word (row_if q_is_kind (row_if q_is_term (row_if q_looked (row_if q_kind_of (row_if q_places (row_if q__law_bag (row_if q__law_take (row_if q__law_alike (row_if q__law_one (row_if q__law_names (row_if q__law_kind (row_if q__law_any_kind (row_if q__law_size (row_if q__law_odd_value (row_if q__law_term (row_if q__law_signature (row_if q__law_looked (row_if q__law_is_name (row_if q__law_is_kind (row_if q__law_is_term (row_if q__law_bent (row_if q_law (fun (z : (none : Option Fd) = some fd) => by cases z)))))))))))))))))))))))) e
theorem gf_mk {P : Program} {wo : World} {K : PySem.W.Frag} {mg : Str → Option Value} {T : List (Addr × Str)} {h : Heap} (X : K.In h) (N : h.Ns mainGlobals mg)
    (z_len : PySem.W.nsIn K mainGlobals "len" = some none)
    (z_list : PySem.W.nsIn K mainGlobals "list" = some none)
    (z_tuple : PySem.W.nsIn K mainGlobals "tuple" = some none)
    (z_sum : PySem.W.nsIn K mainGlobals "sum" = some none)
    (z_max : PySem.W.nsIn K mainGlobals "max" = some none)
    (z_min : PySem.W.nsIn K mainGlobals "min" = some none)
    (z_abs : PySem.W.nsIn K mainGlobals "abs" = some none)
    (z_int : PySem.W.nsIn K mainGlobals "int" = some none)
    (z_sorted : PySem.W.nsIn K mainGlobals "sorted" = some none)
    (z_repr : PySem.W.nsIn K mainGlobals "repr" = some none)
    (z_all : PySem.W.nsIn K mainGlobals "all" = some none)
    (z_any : PySem.W.nsIn K mainGlobals "any" = some none)
    (z_isinstance : PySem.W.nsIn K mainGlobals "isinstance" = some none)
    (z_range : PySem.W.nsIn K mainGlobals "range" = some none)
    (z_str : PySem.W.nsIn K mainGlobals "str" = some none)
    {t_LETTERS : Tok} (c_LETTERS : PySem.W.nsIn K mainGlobals "LETTERS" = some (some (.str "abcdefghijklmnopqrstuvwxyz" t_LETTERS)))
    {d_WIDTHS : Addr} (c_WIDTHS : PySem.W.nsIn K mainGlobals "WIDTHS" = some (some (.ref d_WIDTHS))) {es_WIDTHS : Array DictEntry} {n_WIDTHS : Nat} (e_WIDTHS : K.lookup d_WIDTHS = some ⟨.type "dict", none, .dict es_WIDTHS n_WIDTHS, #[]⟩) (f_WIDTHS : es_WIDTHS.toList.map He.keyOf = He.keysIn wo.params ["list", "pair", "fun"]) (g_WIDTHS : (d_WIDTHS == sysModules) = false)
    {t_WIDTHS_0 : Tok} (k_WIDTHS_0 : PySem.W.nsIn K d_WIDTHS "list" = some (some (.int 1 t_WIDTHS_0)))
    {t_WIDTHS_1 : Tok} (k_WIDTHS_1 : PySem.W.nsIn K d_WIDTHS "pair" = some (some (.int 2 t_WIDTHS_1)))
    {t_WIDTHS_2 : Tok} (k_WIDTHS_2 : PySem.W.nsIn K d_WIDTHS "fun" = some (some (.int 2 t_WIDTHS_2)))
    {d_WORDS : Addr} (c_WORDS : PySem.W.nsIn K mainGlobals "WORDS" = some (some (.ref d_WORDS))) {es_WORDS : Array DictEntry} {n_WORDS : Nat} (e_WORDS : K.lookup d_WORDS = some ⟨.type "dict", none, .dict es_WORDS n_WORDS, #[]⟩) (f_WORDS : es_WORDS.toList.map He.keyOf = He.keysIn wo.params ["name", "call", "both", "row", "as"]) (g_WORDS : (d_WORDS == sysModules) = false)
    {t_WORDS_0 : Tok} (k_WORDS_0 : PySem.W.nsIn K d_WORDS "name" = some (some (.int 1 t_WORDS_0)))
    {t_WORDS_1 : Tok} (k_WORDS_1 : PySem.W.nsIn K d_WORDS "call" = some (some (.int 2 t_WORDS_1)))
    {t_WORDS_2 : Tok} (k_WORDS_2 : PySem.W.nsIn K d_WORDS "both" = some (some (.int 2 t_WORDS_2)))
    {t_WORDS_3 : Tok} (k_WORDS_3 : PySem.W.nsIn K d_WORDS "row" = some (some (.int 2 t_WORDS_3)))
    {t_WORDS_4 : Tok} (k_WORDS_4 : PySem.W.nsIn K d_WORDS "as" = some (some (.int 2 t_WORDS_4)))
    (er : ErN ⟨K, mg, T⟩ ern)
    (y_WayError : Er0 ⟨K, mg, T⟩ "WayError")
    (x_NoName : ErC P ⟨K, mg, T⟩ "NoName")
    (hd : FF K "_law_raised" s__law_raised)
    : GF P wo ⟨K, mg, T⟩ := ⟨PySem.W.mg_none_of X N z_len, PySem.W.mg_none_of X N z_list, PySem.W.mg_none_of X N z_tuple, PySem.W.mg_none_of X N z_sum, PySem.W.mg_none_of X N z_max, PySem.W.mg_none_of X N z_min, PySem.W.mg_none_of X N z_abs, PySem.W.mg_none_of X N z_int, PySem.W.mg_none_of X N z_sorted, PySem.W.mg_none_of X N z_repr, PySem.W.mg_none_of X N z_all, PySem.W.mg_none_of X N z_any, PySem.W.mg_none_of X N z_isinstance, PySem.W.mg_none_of X N z_range, PySem.W.mg_none_of X N z_str, ⟨t_LETTERS, PySem.W.mg_of X N c_LETTERS⟩, kw_of (PySem.W.mg_of X N c_WIDTHS) (dicW_at e_WIDTHS f_WIDTHS g_WIDTHS) (fun p hp => by simp only [w_WIDTHS, List.mem_cons, List.not_mem_nil, or_false] at hp; rcases hp with rfl | rfl | rfl; exact krow_int k_WIDTHS_0; exact krow_int k_WIDTHS_1; exact krow_int k_WIDTHS_2), kw_of (PySem.W.mg_of X N c_WORDS) (dicW_at e_WORDS f_WORDS g_WORDS) (fun p hp => by simp only [w_WORDS, List.mem_cons, List.not_mem_nil, or_false] at hp; rcases hp with rfl | rfl | rfl | rfl | rfl; exact krow_int k_WORDS_0; exact krow_int k_WORDS_1; exact krow_int k_WORDS_2; exact krow_int k_WORDS_3; exact krow_int k_WORDS_4), er, y_WayError, x_NoName, (by obtain ⟨f, fdat, a, F⟩ := hd.ex; exact ⟨f, fdat, PySem.W.mg_of X N a, F⟩)⟩
theorem all_mk {l : PySem.W.OpenLaw} {w : World} {K : PySem.W.Frag} {h : Heap} {mg : Str → Option Value} {fa : Addr} (X : K.In h) (N : h.Ns mainGlobals mg) (hfa : mg "law" = some (.ref fa)) (G : ∀ T, GF l.prog w ⟨K, mg, T⟩)
    (h_is_name : FF K "is_name" s_is_name)
    (h_is_word : FF K "is_word" s_is_word)
    (h_is_kind : FF K "is_kind" s_is_kind)
    (h_is_term : FF K "is_term" s_is_term)
    (h_looked : FF K "looked" s_looked)
    (h_kind_of : FF K "kind_of" s_kind_of)
    (h_places : FF K "places" s_places)
    (h__law_bag : FF K "_law_bag" s__law_bag)
    (h__law_take : FF K "_law_take" s__law_take)
    (h__law_alike : FF K "_law_alike" s__law_alike)
    (h__law_one : FF K "_law_one" s__law_one)
    (h__law_names : FF K "_law_names" s__law_names)
    (h__law_kind : FF K "_law_kind" s__law_kind)
    (h__law_any_kind : FF K "_law_any_kind" s__law_any_kind)
    (h__law_size : FF K "_law_size" s__law_size)
    (h__law_odd_value : FF K "_law_odd_value" s__law_odd_value)
    (h__law_term : FF K "_law_term" s__law_term)
    (h__law_signature : FF K "_law_signature" s__law_signature)
    (h__law_looked : FF K "_law_looked" s__law_looked)
    (h__law_is_name : FF K "_law_is_name" s__law_is_name)
    (h__law_is_kind : FF K "_law_is_kind" s__law_is_kind)
    (h__law_is_term : FF K "_law_is_term" s__law_is_term)
    (h__law_bent : FF K "_law_bent" s__law_bent)
    {f : Addr} {od an : Option Addr} {sl : Array (Option Value)} {oc kV dc pm cd ct : Value} (a : PySem.W.nsIn K mainGlobals "law" = some (some (.ref f))) (l1 : K.lookup f = some ⟨oc, od, .func (PySem.W.fnOf "law" "law" (defArgs s_law) (defBody s_law) (defScope s_law) .none kV dc pm an cd ct), sl⟩) (c : PySem.W.codeIn K cd "law" = true) (kk : PySem.W.keepIn K (.ref f) = true)
    (tb : (codeTab K cd).isSome = true)
    : ∃ (fd : FuncData) (o : Obj) (c P : Addr) (qn : Str), K.lookup fa = some o ∧ o.data = .func fd ∧ fd.code = .ref c ∧ codeTab K (.ref c) = some P ∧ (∀ (s : Shared) (u : Value), BindsTo s fd ⟨[u], []⟩ [("_law_script", u)]) ∧
      ∀ base : Heap, K.In base → base.Ns mainGlobals mg → LamX.TabB base mg c P → FnG l.prog w ⟨K, mg, [(P, qn)]⟩ base (L2.CX l.prog w) 60 fa fd ["_law_script"] (spN ⟨K, mg, [(P, qn)]⟩ (callN tab 60 "law") 1) := by
  have e := hfa.symm.trans (PySem.W.mg_of X N a)
  cases e
  obtain ⟨P0, hP⟩ := Option.isSome_iff_exists.mp tb
  have hcd : ∃ c0, cd = .ref c0 := by cases cd <;> first | exact ⟨_, rfl⟩ | (simp [codeTab] at hP)
  obtain ⟨c0, rfl⟩ := hcd
  refine ⟨PySem.W.fnOf "law" "law" (defArgs s_law) (defBody s_law) (defScope s_law) .none kV dc pm an (.ref c0) ct, _, c0, P0, "law.<locals>.<lambda>", l1, rfl, rfl, hP, fun s v => .of_eq rfl, fun base _ _ TB => ?_⟩
  have DS := defs_all (rows (P := l.prog) (base := base) (g := ⟨K, mg, [(P0, ("law.<locals>.<lambda>" : Str))]⟩) (G _) X N h_is_name h_is_word h_is_kind h_is_term h_looked h_kind_of h_places h__law_bag h__law_take h__law_alike h__law_one h__law_names h__law_kind h__law_any_kind h__law_size h__law_odd_value h__law_term h__law_signature h__law_looked h__law_is_name h__law_is_kind h__law_is_term h__law_bent (r_law (G _) l1 c kk (PySem.W.mg_of X N a) TB rfl)) 59
  exact fnG_cd l1 c sc_law rfl rfl (fun A out s H E hr => p_law (G _) DS A out s H E hr TB rfl) t_law
end K90
namespace Bx
open PySem PySem.Spec PyProof.Rows L2
def w_WIDTHS : List (Str × D) := [("list", .int 1), ("pair", .int 2), ("fun", .int 2)]
noncomputable def bIsName (cl : Str → List D → Hh → Res D) : Fs :=
  zRet (xAnd (xBi .isi (xCons (xV 0) (xCons (xC (.val (.ty "str"))) (xNil)))) (xAnd (xChain leD leD (xC (.int 1)) (xBi .len (xCons (xV 0) (xNil))) (xC (.int 8))) (xBi .all (xCons (xLcG lcF (iV (xV 0)) [1] (gN 1) (yYes) (xBin inD (xV 1) (xC (.str "abcdefghijklmnopqrstuvwxyz")))) (xNil)))))
noncomputable def bIsWord (cl : Str → List D → Hh → Res D) : Fs :=
  zRet (xAnd (xBi .isi (xCons (xV 0) (xCons (xC (.val (.ty "str"))) (xNil)))) (xInW w_WIDTHS (xV 0)))
noncomputable def bIsKind (cl : Str → List D → Hh → Res D) : Fs :=
  zSeq (zIf (yV (xBi .isi (xCons (xV 0) (xCons (xC (.val (.ty "str"))) (xNil))))) (zRet (xCall 1 (cl "is_name") (xCons (xV 0) (xNil)))) (zNext))
    (zSeq (zIf (yOr (yNot (yV (xBi .isi (xCons (xV 0) (xCons (xC (.val (.ty "tuple"))) (xNil)))))) (yOr (yV (xBin ltD (xBi .len (xCons (xV 0) (xNil))) (xC (.int 2)))) (yOr (yNot (yV (xCall 1 (cl "is_word") (xCons (xIdx (xV 0) (xC (.int 0))) (xNil))))) (yV (xBin neD (xBi .len (xCons (xV 0) (xNil))) (xBin addD (xIdxW w_WIDTHS (xIdx (xV 0) (xC (.int 0)))) (xC (.int 1)))))))) (zRet (xC (.bl false))) (zNext))
    (zRet (xBi .all (xCons (xLcG lcF (iV (xSlc (xV 0) (xSome (xC (.int 1))) (xNo))) [1] (gN 1) (yYes) (xCall 1 (cl "is_kind") (xCons (xV 1) (xNil)))) (xNil)))))
noncomputable def bLIsName (cl : Str → List D → Hh → Res D) : Fs :=
  zSeq (zIf (yOr (yNot (yV (xBi .isi (xCons (xV 0) (xCons (xC (.val (.ty "str"))) (xNil)))))) (yNot (yV (xChain leD leD (xC (.int 1)) (xBi .len (xCons (xV 0) (xNil))) (xC (.int 8)))))) (zRet (xC (.bl false))) (zNext))
    (zRet (xBin eqD (xLcG lcF (iV (xV 0)) [1] (gN 1) (yV (xBin ninD (xV 1) (xC (.str "abcdefghijklmnopqrstuvwxyz")))) (xV 1)) (xLst (xNil))))
noncomputable def bLIsKind (cl : Str → List D → Hh → Res D) : Fs :=
  zSeq (zIf (yNot (yV (xBi .isi (xCons (xV 0) (xCons (xC (.val (.ty "tuple"))) (xNil)))))) (zRet (xCall 1 (cl "_law_is_name") (xCons (xV 0) (xNil)))) (zNext))
    (zSeq (zIf (yOr (yV (xBin ninD (xBi .len (xCons (xV 0) (xNil))) (xTup (xCons (xC (.int 2)) (xCons (xC (.int 3)) (xNil)))))) (yOr (yNot (yV (xBi .isi (xCons (xIdx (xV 0) (xC (.int 0))) (xCons (xC (.val (.ty "str"))) (xNil)))))) (yV (xBin ninD (xIdx (xV 0) (xC (.int 0))) (xTup (xCons (xC (.str "list")) (xCons (xC (.str "pair")) (xCons (xC (.str "fun")) (xNil))))))))) (zRet (xC (.bl false))) (zNext))
    (zSeq (zIf (yV (xBin neD (xBi .len (xCons (xV 0) (xNil))) (xIdx (xLst (xCons (xC (.int 2)) (xCons (xC (.int 3)) (xNil)))) (xBi .int (xCons (xBin neD (xIdx (xV 0) (xC (.int 0))) (xC (.str "list"))) (xNil)))))) (zRet (xC (.bl false))) (zNext))
    (zRet (xBin eqD (xLcG lcF (iV (xSlc (xV 0) (xSome (xC (.int 1))) (xNo))) [1] (gN 1) (yNot (yV (xCall 1 (cl "_law_is_kind") (xCons (xV 1) (xNil))))) (xV 1)) (xLst (xNil))))))
structure Nf (T : Tab) : Prop where
  nm : T "is_name" = some ⟨1, 2, bIsName⟩
  wd : T "is_word" = some ⟨1, 1, bIsWord⟩
  kd : T "is_kind" = some ⟨1, 2, bIsKind⟩
structure NLf (T : Tab) : Prop where
  nm : T "_law_is_name" = some ⟨1, 2, bLIsName⟩
  kd : T "_law_is_kind" = some ⟨1, 2, bLIsKind⟩
theorem xChain_at {op op' : D → D → Hh → Res D} {a b c : Fn} {ρ : Rho} {h : Hh} : xChain op op' a b c ρ h = (a ρ h).bind fun x h1 => (b ρ h1).bind fun y h2 => (op x y h2).bind fun z h3 => (isB z h3).bind fun k h4 => if k then (c ρ h4).bind fun u h5 => op' y u h5 else .ok (.bl false) h4 := rfl
theorem sl_of {n : Nat} (e : n ≤ 1000) : n ≤ sizeLine := Nat.le_trans e (by decide)
abbrev ABC : Str := "abcdefghijklmnopqrstuvwxyz"
def lets (x : Str) : Bool := x.cps.toList.all fun c => decide (c ∈ ABC.cps.toList)
def nmB : D → Bool
  | .str x => decide (1 ≤ x.length) && (decide (x.length ≤ 8) && lets x)
  | _ => false
def trk : Nat → D → Bool
  | _, .str x => decide (x.length ≤ 1000)
  | 0, .tup _ => false
  | k + 1, .tup ds => decide (ds.length ≤ 1000) && ds.all (trk k)
  | _, .ref _ => false
  | _, .scr _ => false
  | _, .obj _ _ => false
  | _, .exn _ _ => false
  | _, .cau _ _ _ _ => false
  | _, .val _ => false
  | _, _ => true
theorem all_id {α : Type} {l : List α} {p : α → Bool} : (l.map p).all id = l.all p := by rw [List.all_map]; rfl
theorem any_id {α : Type} {l : List α} {p : α → Bool} : (l.map p).any id = l.any p := by rw [List.any_map]; rfl
theorem map_bl {α : Type} {l : List α} {p : α → Bool} : (l.map fun c => D.bl (p c)) = (l.map p).map D.bl := by rw [List.map_map]; rfl
variable {T : Tab} {h : Hh} {j k : Nat} {d : D}
theorem is_name_ok (K : Nf T) (tr : trk k d = true) : callN T (j + 1) "is_name" [d] h = .ok (.bl (nmB d)) h := by
  rw [call_at K.nm rfl]
  cases d with
  | str x =>
    have hl : x.length ≤ 1000 := by simpa [trk] using tr
    have hc : (lcL (gN 1) yYes (xBin inD (xV 1) (xC (.str "abcdefghijklmnopqrstuvwxyz"))) [some (D.str x), none] (x.cps.toList.map fun c => D.str ⟨#[c]⟩) h) = .ok (x.cps.toList.map fun c => D.bl (decide (c ∈ ABC.cps.toList))) h := lc_map fun c _ => by
      simp [in_sign]
    have hz : sz x.cps.size = true := sz_of hl
    simp only [bIsName, startR, nmB]
    by_cases h1 : 1 ≤ x.length
    · by_cases h2 : x.length ≤ 8
      · have h1' : (1 : Int) ≤ x.length := by omega
        have h2' : (x.length : Int) ≤ 8 := by omega
        simp [xChain_at, len_str (sl_of hl), h1, h2, h1', h2']
        rw [if_pos hz, hc]
        simp only [noX_ok, bind_ok, lcF_at, map_bl, all_at, all_id, of_ok, endB_rt, endC_self]
        rfl
      · have h1' : (1 : Int) ≤ x.length := by omega
        have h2' : ¬ (x.length : Int) ≤ 8 := by omega
        simp [xChain_at, len_str (sl_of hl), h1, h2, h1', h2']
    · have h1' : ¬ (1 : Int) ≤ x.length := by omega
      simp [xChain_at, len_str (sl_of hl), h1, h1']
  | non => simp [bIsName, startR, nmB]
  | bl b => simp [bIsName, startR, nmB]
  | int b => simp [bIsName, startR, nmB]
  | tup b => simp [bIsName, startR, nmB]
  | lst b => simp [bIsName, startR, nmB]
  | dct b => simp [bIsName, startR, nmB]
  | obj b c => cases k <;> simp [trk] at tr
  | exn b c => cases k <;> simp [trk] at tr
  | cau b c e f => cases k <;> simp [trk] at tr
  | ref b => cases k <;> simp [trk] at tr
  | scr b => cases k <;> simp [trk] at tr
  | val b => cases k <;> simp [trk] at tr
theorem law_is_name_ok (L : NLf T) (tr : trk k d = true) : callN T (j + 1) "_law_is_name" [d] h = .ok (.bl (nmB d)) h := by
  rw [call_at L.nm rfl]
  cases d with
  | str x =>
    have hl : x.length ≤ 1000 := by simpa [trk] using tr
    have hz : sz x.cps.size = true := sz_of hl
    have hc : (lcL (gN 1) (yV (xBin ninD (xV 1) (xC (.str "abcdefghijklmnopqrstuvwxyz")))) (xV 1) [some (D.str x), none] (x.cps.toList.map fun c => D.str ⟨#[c]⟩) h) = .ok ((x.cps.toList.map fun c => D.str ⟨#[c]⟩).filter fun d => match d with | .str y => !decide (y.cps.toList.getD 0 0 ∈ ABC.cps.toList) | _ => false) h := lc_filter (fun d hd => by
      obtain ⟨c, hc, rfl⟩ := List.mem_map.mp hd
      simp [nin_sign]) fun d hd => by simp
    simp only [bLIsName, startR, nmB]
    by_cases h1 : 1 ≤ x.length
    · by_cases h2 : x.length ≤ 8
      · have h1' : (1 : Int) ≤ x.length := by omega
        have h2' : (x.length : Int) ≤ 8 := by omega
        simp [xChain_at, zSeq_at, len_str (sl_of hl), h1, h2, h1', h2', sz]
        have hz2 : x.cps.size ≤ sizeLine := sl_of hl
        rw [if_pos hz2, hc]
        simp only [noX_ok, bind_ok, lcF_at, eq_nil, of_ok, endB_rt, endC_self, lets]
        congr 2
        generalize x.cps.toList = l
        induction l with
        | nil => rfl
        | cons c r ih =>
          by_cases hc : c ∈ ABC.cps
          · simp [hc, List.filter_cons] at ih ⊢
            exact ih
          · simp [hc, List.filter_cons]
      · have h1' : (1 : Int) ≤ x.length := by omega
        have h2' : ¬ (x.length : Int) ≤ 8 := by omega
        simp [xChain_at, zSeq_at, len_str (sl_of hl), h1, h2, h1', h2']
    · have h1' : ¬ (1 : Int) ≤ x.length := by omega
      simp [xChain_at, zSeq_at, len_str (sl_of hl), h1, h1']
  | non => simp [bLIsName, startR, nmB, zSeq_at]
  | bl b => simp [bLIsName, startR, nmB, zSeq_at]
  | int b => simp [bLIsName, startR, nmB, zSeq_at]
  | tup b => simp [bLIsName, startR, nmB, zSeq_at]
  | lst b => simp [bLIsName, startR, nmB, zSeq_at]
  | dct b => simp [bLIsName, startR, nmB, zSeq_at]
  | obj b c => cases k <;> simp [trk] at tr
  | exn b c => cases k <;> simp [trk] at tr
  | cau b c e f => cases k <;> simp [trk] at tr
  | ref b => cases k <;> simp [trk] at tr
  | scr b => cases k <;> simp [trk] at tr
  | val b => cases k <;> simp [trk] at tr
def wdt (w : Str) : Nat := if w = "list" then 1 else 2
abbrev W3 : List Str := ["list", "pair", "fun"]
abbrev W2 : List Str := ["list", "pair"]
def kdB : Nat → List Str → D → Bool
  | k + 1, ws, .tup (.str w :: ds) => decide (w ∈ ws) && (decide (ds.length = wdt w) && ds.all (kdB k ws))
  | _ + 1, _, .tup _ => false
  | _, _, d => nmB d
theorem lk (x : Str) : (x = "list" ∧ w_WIDTHS.lookup x = some (.int 1)) ∨ (x = "pair" ∧ w_WIDTHS.lookup x = some (.int 2)) ∨ (x = "fun" ∧ w_WIDTHS.lookup x = some (.int 2)) ∨ (x ∉ W3 ∧ w_WIDTHS.lookup x = none) := by
  by_cases h1 : x = "list"
  · exact .inl ⟨h1, by rw [h1]; rfl⟩
  by_cases h2 : x = "pair"
  · exact .inr (.inl ⟨h2, by rw [h2]; rfl⟩)
  by_cases h3 : x = "fun"
  · exact .inr (.inr (.inl ⟨h3, by rw [h3]; rfl⟩))
  refine .inr (.inr (.inr ⟨by simp [h1, h2, h3], ?_⟩))
  have g1 : (x == ("list" : Str)) = false := by simpa using h1
  have g2 : (x == ("pair" : Str)) = false := by simpa using h2
  have g3 : (x == ("fun" : Str)) = false := by simpa using h3
  simp only [w_WIDTHS, List.lookup, g1, g2, g3]
/-- its length by its word -/
theorem lk2 (x : Str) : (x ∈ W3 ∧ w_WIDTHS.lookup x = some (.int (wdt x))) ∨ (x ∉ W3 ∧ w_WIDTHS.lookup x = none) := by
  rcases lk x with ⟨rfl, e⟩ | ⟨rfl, e⟩ | ⟨rfl, e⟩ | e
  · exact .inl ⟨by decide, e⟩
  · exact .inl ⟨by decide, e⟩
  · exact .inl ⟨by decide, e⟩
  · exact .inr e
variable {T : Tab} {h : Hh} {j k : Nat} {d : D}
@[simp] theorem inW_at {a : Fn} {ρ : Rho} {l : List (Str × D)} : xInW l a ρ h = (a ρ h).bind fun x h1 => match x with | .str z => .ok (.bl (l.lookup z).isSome) h1 | _ => .bad := rfl
@[simp] theorem idxW_at {a : Fn} {ρ : Rho} {l : List (Str × D)} : xIdxW l a ρ h = (a ρ h).bind fun x h1 => match x with | .str z => optD (l.lookup z) h1 | _ => .bad := rfl
def wdB : D → Bool
  | .str x => decide (x ∈ W3)
  | _ => false
theorem is_word_ok (K : Nf T) (tr : trk k d = true) : callN T (j + 1) "is_word" [d] h = .ok (.bl (wdB d)) h := by
  rw [call_at K.wd rfl]
  cases d with
  | str x =>
    rcases lk2 x with ⟨e1, e2⟩ | ⟨e1, e2⟩
    · simp only [bIsWord, startR, wdB, e1]
      simp [e2]
    · simp only [bIsWord, startR, wdB, e1]
      simp [e2]
  | non => simp [bIsWord, startR, wdB]
  | bl b => simp [bIsWord, startR, wdB]
  | int b => simp [bIsWord, startR, wdB]
  | tup b => simp [bIsWord, startR, wdB]
  | lst b => simp [bIsWord, startR, wdB]
  | dct b => simp [bIsWord, startR, wdB]
  | obj b c => cases k <;> simp [trk] at tr
  | exn b c => cases k <;> simp [trk] at tr
  | cau b c e f => cases k <;> simp [trk] at tr
  | ref b => cases k <;> simp [trk] at tr
  | scr b => cases k <;> simp [trk] at tr
  | val b => cases k <;> simp [trk] at tr
theorem kdB_at {ws : List Str} (hd : ∀ ds, d ≠ .tup ds) : kdB k ws d = nmB d := by
  cases k with
  | zero => cases d <;> rfl
  | succ k => cases d <;> first | rfl | exact absurd rfl (hd _)
theorem tr_tup {ds : List D} (tr : trk k (.tup ds) = true) : ∃ k', k = k' + 1 ∧ ds.length ≤ 1000 ∧ ∀ x ∈ ds, trk k' x = true := by
  cases k with
  | zero => simp [trk] at tr
  | succ k =>
    simp only [trk, Bool.and_eq_true, decide_eq_true_eq, List.all_eq_true] at tr
    exact ⟨k, rfl, tr.1, tr.2⟩
theorem is_kind_ok (K : Nf T) : ∀ (k : Nat) (d : D) (j : Nat), trk k d = true → callN T (j + k + 2) "is_kind" [d] h = .ok (.bl (kdB k W3 d)) h := by
  intro k
  induction k with
  | zero =>
    intro d j tr
    rw [call_at K.kd rfl]
    have nm : callN T (j + 0 + 1) "is_name" [d] h = .ok (.bl (nmB d)) h := is_name_ok K (j := j + 0) tr
    cases d with
    | str x => simp [bIsKind, startR, zSeq_at, nm, kdB_at]
    | non => simp [bIsKind, startR, zSeq_at, kdB_at, nmB]
    | bl b => simp [bIsKind, startR, zSeq_at, kdB_at, nmB]
    | int b => simp [bIsKind, startR, zSeq_at, kdB_at, nmB]
    | tup b => simp [trk] at tr
    | lst b => simp [bIsKind, startR, zSeq_at, kdB_at, nmB]
    | dct b => simp [bIsKind, startR, zSeq_at, kdB_at, nmB]
    | obj b c => simp [trk] at tr
    | exn b c => simp [trk] at tr
    | cau b c e f => simp [trk] at tr
    | ref b => simp [trk] at tr
    | scr b => simp [trk] at tr
    | val b => simp [trk] at tr
  | succ k ih =>
    intro d j tr
    rw [show j + (k + 1) + 2 = (j + k + 2) + 1 by omega, call_at K.kd rfl]
    have nm : callN T (j + k + 2) "is_name" [d] h = .ok (.bl (nmB d)) h := is_name_ok K (j := j + k + 1) tr
    cases d with
    | str x => simp [bIsKind, startR, zSeq_at, nm, kdB_at]
    | non => simp [bIsKind, startR, zSeq_at, kdB_at, nmB]
    | bl b => simp [bIsKind, startR, zSeq_at, kdB_at, nmB]
    | int b => simp [bIsKind, startR, zSeq_at, kdB_at, nmB]
    | lst b => simp [bIsKind, startR, zSeq_at, kdB_at, nmB]
    | dct b => simp [bIsKind, startR, zSeq_at, kdB_at, nmB]
    | obj b c => simp [trk] at tr
    | exn b c => simp [trk] at tr
    | cau b c e f => simp [trk] at tr
    | ref b => simp [trk] at tr
    | scr b => simp [trk] at tr
    | val b => simp [trk] at tr
    | tup ds =>
      obtain ⟨k', e, hl, hp⟩ := tr_tup tr
      obtain rfl : k = k' := by omega
      match ds, hl, hp with
      | [], hl, hp => simp [bIsKind, startR, zSeq_at, kdB]
      | [a], hl, hp =>
        have e : kdB (k + 1) W3 (.tup [a]) = false := by
          cases a <;> first | rfl | (simp only [kdB, List.length_nil, wdt]; split <;> simp)
        rw [e]
        simp [bIsKind, startR, zSeq_at]
      | a :: b :: r, hl, hp =>
        have hw : callN T (j + k + 2) "is_word" [a] h = .ok (.bl (wdB a)) h := is_word_ok K (j := j + k + 1) (hp a (List.mem_cons_self ..))
        have n2 : ¬ ((r.length : Int) + 1 + 1 < 2) := by omega
        by_cases ha : wdB a = true
        · obtain ⟨x, rfl, hx⟩ : ∃ x, a = .str x ∧ x ∈ W3 := by
            cases a with
            | str x => exact ⟨x, rfl, by simpa [wdB] using ha⟩
            | _ => simp [wdB] at ha
          rcases lk2 x with ⟨e1, e2⟩ | ⟨e1, e2⟩
          · by_cases hn : (b :: r).length = wdt x
            · have hn2 : (r.length : Int) + 1 + 1 = (wdt x : Int) + 1 := by rw [← hn]; simp
              have n3 : ¬ ((wdt x : Int) + 1 < 2) := by simp only [List.length_cons] at hn; omega
              have hc : lcL (gN 1) yYes (xCall 1 (callN T (j + k + 2) "is_kind") (xCons (xV 1) xNil)) [some (D.tup (.str x :: b :: r)), none] (b :: r) h = .ok ((b :: r).map fun y => D.bl (kdB k W3 y)) h := lc_mapD fun y hy => by
                simp [ih y j (hp y (List.mem_cons_of_mem _ hy))]
              have hz : sz (b :: r).length = true := sz_of (by simp only [List.length_cons] at hl ⊢; omega)
              simp only [bIsKind, startR, kdB, e1, hn, decide_true, Bool.true_and]
              rw [zSeq_at]
              simp [n2, n3, hw, ha, zSeq_at, e2, optD, hn2]
              simp only [List.length_cons] at hz
              rw [if_pos hz, hc]
              simp only [noX_ok, bind_ok, lcF_at, map_bl, all_at, all_id, of_ok, endB_rt, endC_self]
              rfl
            · have hn2 : ¬ (r.length : Int) + 1 + 1 = (wdt x : Int) + 1 := by simp only [List.length_cons] at hn; omega
              simp only [bIsKind, startR, kdB, e1, hn, decide_false, Bool.false_and, Bool.and_false]
              rw [zSeq_at]
              simp [n2, hw, ha, zSeq_at, e2, optD, hn2]
          · exact absurd hx e1
        · have e : kdB (k + 1) W3 (.tup (a :: b :: r)) = false := by
            cases a with
            | str x =>
              have : x ∉ W3 := by simpa [wdB] using ha
              simp only [kdB, this, decide_false, Bool.false_and]
            | _ => rfl
          rw [e]
          simp only [Bool.not_eq_true] at ha
          simp [bIsKind, startR, zSeq_at, n2, hw, ha]
end Bx
namespace Bx
open PySem PySem.Spec PyProof.Rows L2
abbrev Xp := Str → List D → Hh → Prop
@[simp] theorem sz_iff {n : Nat} : (sz n = true) = (n ≤ 16777216) := by
  simp only [sz, decide_eq_true_eq]
  rfl
@[simp] theorem ofStr_inj {a b : String} : (Str.ofString a = Str.ofString b) = (a = b) := by
  refine propext ⟨fun e => ?_, fun e => by rw [e]⟩
  rw [Str.ofString_eq_toList, Str.ofString_eq_toList] at e
  have e2 : a.toList.map Char.toNat = b.toList.map Char.toNat := by injection e with e; simpa using e
  have e3 : a.toList = b.toList := by
    have inj : ∀ {x y : Char}, x.toNat = y.toNat → x = y := fun {x y} h => Char.ext (UInt32.toNat_inj.mp h)
    revert e2
    generalize a.toList = l
    generalize b.toList = m
    induction l generalizing m with
    | nil => intro e; cases m with | nil => rfl | cons => simp at e
    | cons c l ih =>
      intro e
      cases m with
      | nil => simp at e
      | cons d m =>
        simp only [List.map_cons, List.cons.injEq] at e
        rw [inj e.1, ih m e.2]
  exact String.toList_inj.mp e3
def noE : Xp := fun _ _ _ => False
/-- tags: what stands behind is not looked into -/
structure TagE {α : Type} (Q : α → Hh → Prop) (X : Xp) : Type where
structure TagS (N : Rho → Hh → Prop) (R : D → Hh → Prop) (X : Xp) : Type where
inductive wE {α : Type} : (r : Res α) → (Q : α → Hh → Prop) → (X : Xp) → (t : TagE Q X := ⟨⟩) → Prop
  | ok {a : α} {h : Hh} {Q : α → Hh → Prop} {X : Xp} : Q a h → wE (.ok a h) Q X
  | exc {c : Str} {ds : List D} {h : Hh} {Q : α → Hh → Prop} {X : Xp} : X c ds h → wE (.exc c ds h) Q X
inductive wS : (r : SRes) → (N : Rho → Hh → Prop) → (R : D → Hh → Prop) → (X : Xp) → (t : TagS N R X := ⟨⟩) → Prop
  | nx {ρ : Rho} {h : Hh} {N : Rho → Hh → Prop} {R : D → Hh → Prop} {X : Xp} : N ρ h → wS (.nx ρ h) N R X
  | rt {d : D} {h : Hh} {N : Rho → Hh → Prop} {R : D → Hh → Prop} {X : Xp} : R d h → wS (.rt d h) N R X
  | exc {c : Str} {ds : List D} {ρ : Rho} {h : Hh} {N : Rho → Hh → Prop} {R : D → Hh → Prop} {X : Xp} : X c ds h → wS (.exc c ds ρ h) N R X
section
variable {α β : Type} {r r' : Res α} {Q Q' : α → Hh → Prop} {X X' : Xp} {s s' : SRes} {N N' : Rho → Hh → Prop} {R R' : D → Hh → Prop} {ρ : Rho} {h h' h0 : Hh} {d : D} {ds : List D} {c : Str}
theorem wE_congr (e : r = r') : wE r Q X = wE r' Q X := by rw [e]
theorem wS_congr (e : s = s') : wS s N R X = wS s' N R X := by rw [e]
@[simp, simp ↓] theorem wE_ok {a : α} : wE (.ok a h) Q X = Q a h := propext ⟨fun w => by cases w; assumption, .ok⟩
@[simp, simp ↓] theorem wE_exc : wE (.exc c ds h : Res α) Q X = X c ds h := propext ⟨fun w => by cases w; assumption, .exc⟩
@[simp, simp ↓] theorem wE_bad : wE (.bad : Res α) Q X = False := propext ⟨fun w => (nomatch w), False.elim⟩
@[simp, simp ↓] theorem wE_bind {f : α → Hh → Res β} {Q : β → Hh → Prop} : wE (r.bind f) Q X = wE r (fun a h => wE (f a h) Q X) X := by cases r <;> simp only [Res.bind_ok, Res.bind_exc, Res.bind_bad, wE_ok, wE_exc, wE_bad]
@[simp, simp ↓] theorem wE_ite {p : Prop} [Decidable p] : wE (if p then r else r') Q X = if p then wE r Q X else wE r' Q X := by split <;> rfl
@[simp, simp ↓] theorem wS_ite {p : Prop} [Decidable p] : wS (if p then s else s') N R X = if p then wS s N R X else wS s' N R X := by split <;> rfl
@[simp, simp ↓] theorem wS_nx : wS (.nx ρ h) N R X = N ρ h := propext ⟨fun w => by cases w; assumption, .nx⟩
@[simp, simp ↓] theorem wS_rt : wS (.rt d h) N R X = R d h := propext ⟨fun w => by cases w; assumption, .rt⟩
@[simp, simp ↓] theorem wS_exc : wS (.exc c ds ρ h) N R X = X c ds h := propext ⟨fun w => by cases w; assumption, .exc⟩
@[simp, simp ↓] theorem wS_bad : wS .bad N R X = False := propext ⟨fun w => (nomatch w), False.elim⟩
@[simp, simp ↓] theorem wS_bk : wS (.bk ρ h) N R X = False := propext ⟨fun w => (nomatch w), False.elim⟩
@[simp, simp ↓] theorem wS_ct : wS (.ct ρ h) N R X = False := propext ⟨fun w => (nomatch w), False.elim⟩
@[simp, simp ↓] theorem wS_of {f : α → Hh → SRes} : wS (SRes.of ρ r f) N R X = wE r (fun a h => wS (f a h) N R X) X := by cases r <;> simp only [SRes.of, wE_ok, wE_exc, wE_bad, wS_exc, wS_bad]
@[simp, simp ↓] theorem wS_seq {a b : Fs} : wS (zSeq a b ρ h) N R X = wS (a ρ h) (fun ρ1 h1 => wS (b ρ1 h1) N R X) R X := by
  rw [zSeq_at]
  cases a ρ h <;> simp only [wS_nx, wS_rt, wS_exc, wS_bad, wS_bk, wS_ct]
theorem wE_ext (e : ∀ a h, Q a h = Q' a h) : wE r Q X = wE r Q' X := by
  obtain rfl : Q = Q' := funext fun a => funext fun h => e a h
  rfl
theorem wE_mono (w : wE r Q X) (hq : ∀ a h, Q a h → Q' a h) (hx : ∀ c ds h, X c ds h → X' c ds h) : wE r Q' X' := by
  cases w with
  | ok q => exact .ok (hq _ _ q)
  | exc q => exact .exc (hx _ _ _ q)
theorem wS_mono (w : wS s N R X) (hn : ∀ a h, N a h → N' a h) (hr : ∀ a h, R a h → R' a h) (hx : ∀ c ds h, X c ds h → X' c ds h) : wS s N' R' X' := by
  cases w with
  | nx q => exact .nx (hn _ _ q)
  | rt q => exact .rt (hr _ _ q)
  | exc q => exact .exc (hx _ _ _ q)
theorem wE_ex (w : wE r Q noE) : ∃ a h, r = .ok a h ∧ Q a h := by
  cases w with
  | ok q => exact ⟨_, _, rfl, q⟩
  | exc q => exact q.elim
theorem wE_is {a : α} (w : wE r (fun b h' => b = a ∧ h' = h) noE) : r = .ok a h := by
  obtain ⟨b, h1, e, rfl, rfl⟩ := wE_ex w
  exact e
theorem wE_of {a : α} (e : r = .ok a h) (q : Q a h) : wE r Q X := by rw [e]; exact .ok q
theorem wS_ex (w : wS s N (fun _ _ => False) noE) : ∃ ρ h, s = .nx ρ h ∧ N ρ h := by
  cases w with
  | nx q => exact ⟨_, _, rfl, q⟩
  | rt q => exact q.elim
  | exc q => exact q.elim
/-- what a call leaves -/
def eC (h : Hh) (Q : D → Hh → Prop) (d : D) (h' : Hh) : Prop := wE (endC h (.ok d h')) Q noE
def eX (h : Hh) (X : Xp) (c : Str) (ds : List D) (h' : Hh) : Prop := wE (endC h (.exc c ds h')) (fun _ _ => False) X
theorem call_w {T : Tab} {k : Nat} {f : Str} {fd : Fd} {Q : D → Hh → Prop} (e : T f = some fd) (hl : ds.length = fd.np)
    (g : wS (fd.body (callN T k) (startR fd.nl ds) h) (fun _ h' => eC h Q .non h') (eC h Q) (eX h X)) : wE (callN T (k + 1) f ds h) Q X := by
  rw [call_at e hl]
  generalize fd.body (callN T k) (startR fd.nl ds) h = b at g
  cases g with
  | nx q => exact wE_mono q (fun _ _ z => z) fun _ _ _ z => z.elim
  | rt q => exact wE_mono q (fun _ _ z => z) fun _ _ _ z => z.elim
  | exc q => exact wE_mono q (fun _ _ z => z.elim) fun _ _ _ z => z
theorem eC_len {Q : D → Hh → Prop} (hl : h'.length = h.length) : eC h Q d h' = Q d h' := by
  simp only [eC, endC_len hl, wE_ok]
@[simp] theorem eC_self {Q : D → Hh → Prop} : eC h Q d h = Q d h := eC_len rfl
@[simp] theorem eC_bag {Q : D → Hh → Prop} {o o' : O} {r : Hh} : eC (o :: r) Q d (o' :: r) = Q d (o' :: r) := eC_len (by simp)
theorem eX_len (hl : h'.length = h.length) : eX h X c ds h' = X c ds h' := by
  simp only [eX, endC_xlen hl, wE_exc]
@[simp] theorem eX_self : eX h X c ds h = X c ds h := eX_len rfl
@[simp] theorem eX_bag {o o' : O} {r : Hh} : eX (o :: r) X c ds (o' :: r) = X c ds (o' :: r) := eX_len (by simp)
theorem M_at {f : D → List D → Hh → Res D} {o : Fn} {as : Fl} {n : Nat} {xs : List D} (ho : o ρ h = .ok (.ref n) h) (hn : h[n]? = some (.lst xs)) : xM f o as ρ h = (as ρ h).bind fun ds h2 => f (.ref n) ds h2 := by
  simp only [xM, ho, Res.bind_ok, asL, hn]
theorem app_at {n : Nat} {xs : List D} {y : D} (hn : h[n]? = some (.lst xs)) (hl : xs.length < 16777216) : mApp (.ref n) [y] h = .ok .non (h.set n (.lst (xs ++ [y]))) := by
  have : xs.length < sizeLine := hl
  simp only [mApp, hn, this, decide_true, if_true]
@[simp] theorem in_dct {x : Str} {kds : List (Key × D)} : inD (.str x) (.dct kds) h = .ok (.bl (dfind kds (.inr x)).isSome) h := rfl
@[simp] theorem nin_dct {x : Str} {kds : List (Key × D)} : ninD (.str x) (.dct kds) h = .ok (.bl (!(dfind kds (.inr x)).isSome)) h := rfl
@[simp] theorem get2_at {o k z : Fn} : xGet2 o k z ρ h = (o ρ h).bind fun d h1 => match asD h1 d with
  | some _ => (k ρ h1).bind fun y h2 => (z ρ h2).bind fun z h3 => match asD h3 d, toK y with
    | some kds, some ky => .ok ((dfind kds ky).getD z) h3
    | _, _ => .bad
  | none => .bad := rfl
@[simp] theorem asD_dct {kds : List (Key × D)} : asD h (.dct kds) = some kds := rfl
@[simp] theorem toK_str {x : Str} : toK (.str x) = some (.inr x) := rfl
@[simp] theorem raise_at {n : Nat} {fs : Fl} : zRaise c n fs ρ h = SRes.of ρ (fs ρ h) fun ds h1 => if ds.length = n then .exc c ds ρ h1 else .bad := rfl
theorem loop_w {t : Fg} {b : Fs} {d : D} {ds : List D} {ρ1 : Rho} (ht : t d ρ = some ρ1) (hb : wS (b ρ1 h) (fun ρ2 h2 => wS (loopS t b ds ρ2 h2) N R X) R X) : wS (loopS t b (d :: ds) ρ h) N R X := by
  simp only [loopS, ht]
  generalize b ρ1 h = y at hb
  cases hb with
  | nx q => exact q
  | rt q => exact .rt q
  | exc q => exact .exc q
theorem eC_cut {Q : D → Hh → Prop} {x : Hh} (hb : Bel h.length d) : eC h Q d (h ++ x) = Q d h := by
  simp only [eC, endC_cut hb, wE_ok]
theorem endC_xcut {x : Hh} (hb : Bels h.length ds) : Bx.endC h (.exc c ds (h ++ x)) = .exc c ds h := by
  simp only [Bx.endC, if_pos (And.intro (keep_app h x) hb), List.take_left']
theorem eX_cut {x : Hh} (hb : Bels h.length ds) : eX h X c ds (h ++ x) = X c ds h := by
  simp only [eX, endC_xcut hb, wE_exc]
theorem eC_new {Q : D → Hh → Prop} {o : O} (hb : OB h.length o) : eC h Q (.ref h.length) (h ++ [o]) = Q (.ref h.length) (h ++ [o]) := by
  simp only [eC, endC_new (h := h) (x := [o]) (k := h.length) (o := o) (by simp) (Nat.le_refl _) hb, wE_ok]
@[simp] theorem add_lst {xs ys : List D} : addD (.lst xs) (.lst ys) h = if sz (xs.length + ys.length) = true then .ok (.lst (xs ++ ys)) h else .bad := rfl
@[simp] theorem add_tup {xs ys : List D} : addD (.tup xs) (.tup ys) h = if sz (xs.length + ys.length) = true then .ok (.tup (xs ++ ys)) h else .bad := rfl
@[simp] theorem zPar_at {i j : Nat} {a : Fl} : zPar i j a ρ h = SRes.of ρ (a ρ h) fun ds h1 => match ds with
  | [d, e] => .nx ((ρ.set i (some d)).set j (some e)) h1
  | _ => .bad := rfl
/-- [x for x in .. if ..] -/
theorem filt_w {i : Nat} {cc : Ft} {e : Fn} {p : D → Bool} {Q : List D → Hh → Prop} (hc : ∀ x ∈ ds, cc (ρ.set i (some x)) h = .ok (p x) h) (he : ∀ x ∈ ds, e (ρ.set i (some x)) h = .ok x h) (q : Q (ds.filter p) h) : wE (noX (lcL (gN i) cc e ρ ds h)) Q X := by
  rw [lc_filter hc he]
  exact .ok q
/-- [f(x) for x in ..] -/
theorem map_w {i : Nat} {e : Fn} {f : D → D} {Q : List D → Hh → Prop} (he : ∀ x ∈ ds, e (ρ.set i (some x)) h = .ok (f x) h) (q : Q (ds.map f) h) : wE (noX (lcL (gN i) yYes e ρ ds h)) Q X := by
  rw [lc_mapD he]
  exact .ok q
end

section
variable {ρ : Rho} {h : Hh} {X : Xp} {a b : Fn} {fs : Fl} {t u : Ft} {d : D} {N : Rho → Hh → Prop} {R : D → Hh → Prop}
@[simp ↓] theorem w_C {Q : D → Hh → Prop} : wE (xC d ρ h) Q X = Q d h := by
  simp only [xC_at, wE_bind, wE_ite, wE_ok, wS_of, wS_ite, wS_nx, wS_rt]
  repeat (refine wE_ext fun _ _ => ?_; try simp only [wE_bind, wE_ite, wE_ok, wS_of, wS_ite, wS_nx, wS_rt])
@[simp ↓] theorem w_Bin {op : D → D → Hh → Res D} {Q : D → Hh → Prop} : wE (xBin op a b ρ h) Q X = wE (a ρ h) (fun x h1 => wE (b ρ h1) (fun y h2 => wE (op x y h2) Q X) X) X := by
  simp only [xBin_at, wE_bind, wE_ite, wE_ok, wS_of, wS_ite, wS_nx, wS_rt]
  repeat (refine wE_ext fun _ _ => ?_; try simp only [wE_bind, wE_ite, wE_ok, wS_of, wS_ite, wS_nx, wS_rt])
@[simp ↓] theorem w_Idx {Q : D → Hh → Prop} : wE (xIdx a b ρ h) Q X = wE (a ρ h) (fun x h1 => wE (b ρ h1) (fun y h2 => wE (idxD x y h2) Q X) X) X := by
  simp only [xIdx_at, wE_bind, wE_ite, wE_ok, wS_of, wS_ite, wS_nx, wS_rt]
  repeat (refine wE_ext fun _ _ => ?_; try simp only [wE_bind, wE_ite, wE_ok, wS_of, wS_ite, wS_nx, wS_rt])
@[simp ↓] theorem w_Nil {Q : List D → Hh → Prop} : wE (xNil ρ h) Q X = Q [] h := by
  simp only [xNil_at, wE_bind, wE_ite, wE_ok, wS_of, wS_ite, wS_nx, wS_rt]
  repeat (refine wE_ext fun _ _ => ?_; try simp only [wE_bind, wE_ite, wE_ok, wS_of, wS_ite, wS_nx, wS_rt])
@[simp ↓] theorem w_Cons {Q : List D → Hh → Prop} : wE (xCons a fs ρ h) Q X = wE (a ρ h) (fun x h1 => wE (fs ρ h1) (fun xs h2 => Q (x :: xs) h2) X) X := by
  simp only [xCons_at, wE_bind, wE_ite, wE_ok, wS_of, wS_ite, wS_nx, wS_rt]
  repeat (refine wE_ext fun _ _ => ?_; try simp only [wE_bind, wE_ite, wE_ok, wS_of, wS_ite, wS_nx, wS_rt])
@[simp ↓] theorem w_Tup {Q : D → Hh → Prop} : wE (xTup fs ρ h) Q X = wE (fs ρ h) (fun ds h1 => sz ds.length = true ∧ Q (.tup ds) h1) X := by
  simp only [xTup_at, wE_bind]
  cases fs ρ h with
  | ok ds h1 => simp only [wE_ok]; by_cases c : sz ds.length = true <;> simp [c]
  | exc => simp only [wE_exc]
  | bad => simp only [wE_bad]
@[simp ↓] theorem w_Lst {Q : D → Hh → Prop} : wE (xLst fs ρ h) Q X = wE (fs ρ h) (fun ds h1 => sz ds.length = true ∧ Q (.lst ds) h1) X := by
  simp only [xLst_at, wE_bind]
  cases fs ρ h with
  | ok ds h1 => simp only [wE_ok]; by_cases c : sz ds.length = true <;> simp [c]
  | exc => simp only [wE_exc]
  | bad => simp only [wE_bad]
@[simp ↓] theorem w_Nlst {Q : D → Hh → Prop} : wE (xNlst fs ρ h) Q X = wE (fs ρ h) (fun ds h1 => sz ds.length = true ∧ Q (.ref h1.length) (h1 ++ [.lst ds])) X := by
  simp only [xNlst_at, wE_bind]
  cases fs ρ h with
  | ok ds h1 => simp only [wE_ok]; by_cases c : sz ds.length = true <;> simp [c]
  | exc => simp only [wE_exc]
  | bad => simp only [wE_bad]
@[simp ↓] theorem w_Bi {bi : Bi} {Q : D → Hh → Prop} : wE (xBi bi fs ρ h) Q X = wE (fs ρ h) (fun ds h1 => wE (biS bi ds h1) Q X) X := by
  simp only [xBi_at, wE_bind, wE_ite, wE_ok, wS_of, wS_ite, wS_nx, wS_rt]
  repeat (refine wE_ext fun _ _ => ?_; try simp only [wE_bind, wE_ite, wE_ok, wS_of, wS_ite, wS_nx, wS_rt])
@[simp ↓] theorem w_yV {Q : Bool → Hh → Prop} : wE (yV a ρ h) Q X = wE (a ρ h) (fun x h1 => wE (isB x h1) Q X) X := by
  simp only [yV_at, wE_bind, wE_ite, wE_ok, wS_of, wS_ite, wS_nx, wS_rt]
  repeat (refine wE_ext fun _ _ => ?_; try simp only [wE_bind, wE_ite, wE_ok, wS_of, wS_ite, wS_nx, wS_rt])
@[simp ↓] theorem w_yYes {Q : Bool → Hh → Prop} : wE (yYes ρ h) Q X = Q true h := by
  simp only [yYes_at, wE_bind, wE_ite, wE_ok, wS_of, wS_ite, wS_nx, wS_rt]
  repeat (refine wE_ext fun _ _ => ?_; try simp only [wE_bind, wE_ite, wE_ok, wS_of, wS_ite, wS_nx, wS_rt])
@[simp ↓] theorem w_yNot {Q : Bool → Hh → Prop} : wE (yNot t ρ h) Q X = wE (t ρ h) (fun c h1 => Q (!c) h1) X := by
  simp only [yNot_at, wE_bind, wE_ite, wE_ok, wS_of, wS_ite, wS_nx, wS_rt]
  repeat (refine wE_ext fun _ _ => ?_; try simp only [wE_bind, wE_ite, wE_ok, wS_of, wS_ite, wS_nx, wS_rt])
@[simp ↓] theorem w_iV {Q : List D → Hh → Prop} : wE (iV a ρ h) Q X = wE (a ρ h) (fun x h1 => wE (itemsD x h1) Q X) X := by
  simp only [iV_at, wE_bind, wE_ite, wE_ok, wS_of, wS_ite, wS_nx, wS_rt]
  repeat (refine wE_ext fun _ _ => ?_; try simp only [wE_bind, wE_ite, wE_ok, wS_of, wS_ite, wS_nx, wS_rt])
@[simp ↓] theorem w_Set {i : Nat} : wS (zSet i a ρ h) N R X = wE (a ρ h) (fun d h1 => N (ρ.set i (some d)) h1) X := by
  simp only [zSet_at, wE_bind, wE_ite, wE_ok, wS_of, wS_ite, wS_nx, wS_rt]
  repeat (refine wE_ext fun _ _ => ?_; try simp only [wE_bind, wE_ite, wE_ok, wS_of, wS_ite, wS_nx, wS_rt])
@[simp ↓] theorem w_Ret : wS (zRet a ρ h) N R X = wE (a ρ h) R X := by
  simp only [zRet_at, wE_bind, wE_ite, wE_ok, wS_of, wS_ite, wS_nx, wS_rt]
  repeat (refine wE_ext fun _ _ => ?_; try simp only [wE_bind, wE_ite, wE_ok, wS_of, wS_ite, wS_nx, wS_rt])
@[simp ↓] theorem w_Expr : wS (zExpr a ρ h) N R X = wE (a ρ h) (fun _ h1 => N ρ h1) X := by
  simp only [zExpr_at, wE_bind, wE_ite, wE_ok, wS_of, wS_ite, wS_nx, wS_rt]
  repeat (refine wE_ext fun _ _ => ?_; try simp only [wE_bind, wE_ite, wE_ok, wS_of, wS_ite, wS_nx, wS_rt])
@[simp ↓] theorem w_Next : wS (zNext ρ h) N R X = N ρ h := by
  simp only [zNext_at, wE_bind, wE_ite, wE_ok, wS_of, wS_ite, wS_nx, wS_rt]
  repeat (refine wE_ext fun _ _ => ?_; try simp only [wE_bind, wE_ite, wE_ok, wS_of, wS_ite, wS_nx, wS_rt])
@[simp ↓] theorem w_V {i : Nat} {Q : D → Hh → Prop} : wE (xV i ρ h) Q X = wE (match ρ[i]? with | some (some d) => .ok d h | _ => .bad : Res D) Q X := rfl
@[simp ↓] theorem w_Un {op : D → Hh → Res D} {Q : D → Hh → Prop} : wE (xUn op a ρ h) Q X = wE (a ρ h) (fun x h1 => wE (op x h1) Q X) X := by
  simp only [xUn_at, wE_bind, wE_ite, wE_ok, wS_of, wS_ite, wS_nx, wS_rt]
  repeat (refine wE_ext fun _ _ => ?_; try simp only [wE_bind, wE_ite, wE_ok, wS_of, wS_ite, wS_nx, wS_rt])
@[simp ↓] theorem w_Dct0 {Q : D → Hh → Prop} : wE (xDct0 ρ h) Q X = Q (.dct []) h := by
  simp only [xDct0_at, wE_bind, wE_ite, wE_ok, wS_of, wS_ite, wS_nx, wS_rt]
  repeat (refine wE_ext fun _ _ => ?_; try simp only [wE_bind, wE_ite, wE_ok, wS_of, wS_ite, wS_nx, wS_rt])
@[simp ↓] theorem w_Ndct0 {Q : D → Hh → Prop} : wE (xNdct0 ρ h) Q X = Q (.ref h.length) (h ++ [.dct []]) := by
  simp only [xNdct0, wE_bind, wE_ite, wE_ok, wS_of, wS_ite, wS_nx, wS_rt]
  repeat (refine wE_ext fun _ _ => ?_; try simp only [wE_bind, wE_ite, wE_ok, wS_of, wS_ite, wS_nx, wS_rt])
@[simp ↓] theorem w_Dct1 {k v : Str} {Q : D → Hh → Prop} : wE (xDct1 k v ρ h) Q X = Q (.dct [(.inr k, .str v)]) h := by
  simp only [xDct1, wE_bind, wE_ite, wE_ok, wS_of, wS_ite, wS_nx, wS_rt]
  repeat (refine wE_ext fun _ _ => ?_; try simp only [wE_bind, wE_ite, wE_ok, wS_of, wS_ite, wS_nx, wS_rt])
@[simp ↓] theorem w_And {Q : D → Hh → Prop} : wE (xAnd a b ρ h) Q X = wE (a ρ h) (fun x h1 => wE (isB x h1) (fun c h2 => if c then wE (b ρ h2) Q X else Q (.bl false) h2) X) X := by
  simp only [xAnd_at, wE_bind, wE_ite, wE_ok, wS_of, wS_ite, wS_nx, wS_rt]
  repeat (refine wE_ext fun _ _ => ?_; try simp only [wE_bind, wE_ite, wE_ok, wS_of, wS_ite, wS_nx, wS_rt])
@[simp ↓] theorem w_Or {Q : D → Hh → Prop} : wE (xOr a b ρ h) Q X = wE (a ρ h) (fun x h1 => wE (isB x h1) (fun c h2 => if c then Q (.bl true) h2 else wE (b ρ h2) Q X) X) X := by
  simp only [xOr_at, wE_bind, wE_ite, wE_ok, wS_of, wS_ite, wS_nx, wS_rt]
  repeat (refine wE_ext fun _ _ => ?_; try simp only [wE_bind, wE_ite, wE_ok, wS_of, wS_ite, wS_nx, wS_rt])
@[simp ↓] theorem w_Not {Q : D → Hh → Prop} : wE (xNot a ρ h) Q X = wE (a ρ h) (fun x h1 => wE (isB x h1) (fun c h2 => Q (.bl (!c)) h2) X) X := by
  simp only [xNot_at, wE_bind, wE_ite, wE_ok, wS_of, wS_ite, wS_nx, wS_rt]
  repeat (refine wE_ext fun _ _ => ?_; try simp only [wE_bind, wE_ite, wE_ok, wS_of, wS_ite, wS_nx, wS_rt])
@[simp ↓] theorem w_Ife {Q : D → Hh → Prop} : wE (xIfe t a b ρ h) Q X = wE (t ρ h) (fun c h1 => if c then wE (a ρ h1) Q X else wE (b ρ h1) Q X) X := by
  simp only [xIfe_at, wE_bind, wE_ite, wE_ok, wS_of, wS_ite, wS_nx, wS_rt]
  repeat (refine wE_ext fun _ _ => ?_; try simp only [wE_bind, wE_ite, wE_ok, wS_of, wS_ite, wS_nx, wS_rt])
@[simp ↓] theorem w_Chain {op op' : D → D → Hh → Res D} {cc : Fn} {Q : D → Hh → Prop} : wE (xChain op op' a b cc ρ h) Q X = wE (a ρ h) (fun x h1 => wE (b ρ h1) (fun y h2 => wE (op x y h2) (fun z h3 => wE (isB z h3) (fun k h4 => if k then wE (cc ρ h4) (fun u h5 => wE (op' y u h5) Q X) X else Q (.bl false) h4) X) X) X) X := by
  simp only [xChain, wE_bind]
  refine wE_ext fun _ _ => ?_
  simp only [wE_bind]
  refine wE_ext fun _ _ => ?_
  simp only [wE_bind]
  refine wE_ext fun _ _ => ?_
  simp only [wE_bind]
  refine wE_ext fun _ _ => ?_
  simp only [wE_ite, wE_bind, wE_ok]
@[simp ↓] theorem w_No {Q : Option Int → Hh → Prop} : wE (xNo ρ h) Q X = Q none h := by
  simp only [xNo_at, wE_bind, wE_ite, wE_ok, wS_of, wS_ite, wS_nx, wS_rt]
  repeat (refine wE_ext fun _ _ => ?_; try simp only [wE_bind, wE_ite, wE_ok, wS_of, wS_ite, wS_nx, wS_rt])
@[simp ↓] theorem w_Some {Q : Option Int → Hh → Prop} : wE (xSome a ρ h) Q X = wE (a ρ h) (fun x h1 => wE (isI x h1) Q X) X := by
  simp only [xSome_at, wE_bind, wE_ite, wE_ok, wS_of, wS_ite, wS_nx, wS_rt]
  repeat (refine wE_ext fun _ _ => ?_; try simp only [wE_bind, wE_ite, wE_ok, wS_of, wS_ite, wS_nx, wS_rt])
@[simp ↓] theorem w_Slc {lo hi : Fo} {Q : D → Hh → Prop} : wE (xSlc a lo hi ρ h) Q X = wE (a ρ h) (fun x h1 => wE (lo ρ h1) (fun l h2 => wE (hi ρ h2) (fun u h3 => wE (slcD x l u h3) Q X) X) X) X := by
  simp only [xSlc_at, wE_bind, wE_ite, wE_ok, wS_of, wS_ite, wS_nx, wS_rt]
  repeat (refine wE_ext fun _ _ => ?_; try simp only [wE_bind, wE_ite, wE_ok, wS_of, wS_ite, wS_nx, wS_rt])
@[simp ↓] theorem w_Call {n : Nat} {c : List D → Hh → Res D} {Q : D → Hh → Prop} : wE (xCall n c fs ρ h) Q X = wE (fs ρ h) (fun ds h1 => ds.length = n ∧ wE (c ds h1) Q X) X := by
  simp only [xCall_at, wE_bind]
  cases fs ρ h with
  | ok ds h1 => simp only [wE_ok]; by_cases k : ds.length = n <;> simp [k]
  | exc => simp only [wE_exc]
  | bad => simp only [wE_bad]
@[simp ↓] theorem w_yAnd {Q : Bool → Hh → Prop} : wE (yAnd t u ρ h) Q X = wE (t ρ h) (fun c h1 => if c then wE (u ρ h1) Q X else Q false h1) X := by
  simp only [yAnd_at, wE_bind, wE_ite, wE_ok, wS_of, wS_ite, wS_nx, wS_rt]
  repeat (refine wE_ext fun _ _ => ?_; try simp only [wE_bind, wE_ite, wE_ok, wS_of, wS_ite, wS_nx, wS_rt])
@[simp ↓] theorem w_yOr {Q : Bool → Hh → Prop} : wE (yOr t u ρ h) Q X = wE (t ρ h) (fun c h1 => if c then Q true h1 else wE (u ρ h1) Q X) X := by
  simp only [yOr_at, wE_bind, wE_ite, wE_ok, wS_of, wS_ite, wS_nx, wS_rt]
  repeat (refine wE_ext fun _ _ => ?_; try simp only [wE_bind, wE_ite, wE_ok, wS_of, wS_ite, wS_nx, wS_rt])
@[simp ↓] theorem w_Str1 {f : Str → D → Hh → Res D} {Q : D → Hh → Prop} : wE (xStr1 f a b ρ h) Q X = wE (a ρ h) (fun x h1 => wE (match x with | .str s => (b ρ h1).bind fun y h2 => f s y h2 | _ => .bad : Res D) Q X) X := by
  simp only [xStr1_at, wE_bind, wE_ite, wE_ok, wS_of, wS_ite, wS_nx, wS_rt]
  repeat (refine wE_ext fun _ _ => ?_; try simp only [wE_bind, wE_ite, wE_ok, wS_of, wS_ite, wS_nx, wS_rt])
@[simp ↓] theorem w_InW {wd : List (Str × D)} {Q : D → Hh → Prop} : wE (xInW wd a ρ h) Q X = wE (a ρ h) (fun x h1 => wE (match x with | .str z => .ok (.bl (wd.lookup z).isSome) h1 | _ => .bad : Res D) Q X) X := by
  simp only [xInW, wE_bind, wE_ite, wE_ok, wS_of, wS_ite, wS_nx, wS_rt]
  repeat (refine wE_ext fun _ _ => ?_; try simp only [wE_bind, wE_ite, wE_ok, wS_of, wS_ite, wS_nx, wS_rt])
@[simp ↓] theorem w_NinW {wd : List (Str × D)} {Q : D → Hh → Prop} : wE (xNinW wd a ρ h) Q X = wE (a ρ h) (fun x h1 => wE (match x with | .str z => .ok (.bl (!(wd.lookup z).isSome)) h1 | _ => .bad : Res D) Q X) X := by
  simp only [xNinW, wE_bind, wE_ite, wE_ok, wS_of, wS_ite, wS_nx, wS_rt]
  repeat (refine wE_ext fun _ _ => ?_; try simp only [wE_bind, wE_ite, wE_ok, wS_of, wS_ite, wS_nx, wS_rt])
@[simp ↓] theorem w_IdxW {wd : List (Str × D)} {Q : D → Hh → Prop} : wE (xIdxW wd a ρ h) Q X = wE (a ρ h) (fun x h1 => wE (match x with | .str z => optD (wd.lookup z) h1 | _ => .bad : Res D) Q X) X := by
  simp only [xIdxW, wE_bind, wE_ite, wE_ok, wS_of, wS_ite, wS_nx, wS_rt]
  repeat (refine wE_ext fun _ _ => ?_; try simp only [wE_bind, wE_ite, wE_ok, wS_of, wS_ite, wS_nx, wS_rt])
@[simp ↓] theorem w_M {f : D → List D → Hh → Res D} {Q : D → Hh → Prop} : wE (xM f a fs ρ h) Q X = wE (a ρ h) (fun x h1 => wE (match asL h1 x with | some _ => (fs ρ h1).bind fun ds h2 => f x ds h2 | none => .bad : Res D) Q X) X := by
  simp only [xM, wE_bind, wE_ite, wE_ok, wS_of, wS_ite, wS_nx, wS_rt]
  repeat (refine wE_ext fun _ _ => ?_; try simp only [wE_bind, wE_ite, wE_ok, wS_of, wS_ite, wS_nx, wS_rt])
@[simp ↓] theorem w_LcG {f : List D → Hh → Res D} {it : Fl} {own : List Nat} {tg : Fg} {Q : D → Hh → Prop} : wE (xLcG f it own tg t a ρ h) Q X = wE (it ρ h) (fun ds h1 => sz ds.length = true ∧ wE (noX (lcL tg t a (wipeR ρ own) ds h1)) (fun es h2 => wE (f es h2) Q X) X) X := by
  simp only [xLcG, lcE, wE_bind]
  cases it ρ h with
  | ok ds h1 => simp only [wE_ok]; by_cases k : sz ds.length = true <;> simp only [k, if_true, if_false, true_and, false_and, Bool.false_eq_true, wE_bad]
  | exc => simp only [wE_exc]
  | bad => simp only [wE_bad]
@[simp ↓] theorem w_Lc2 {f : List D → Hh → Res D} {it it1 : Fl} {own own1 : List Nat} {tg tg1 : Fg} {Q : D → Hh → Prop} : wE (xLc2 f it own tg t it1 own1 tg1 u a ρ h) Q X = wE (it ρ h) (fun ds h1 => wE (noX (szL (lc2L tg t it1 own1 tg1 u a (wipeR ρ own) ds h1))) (fun es h2 => wE (f es h2) Q X) X) X := by
  simp only [xLc2, lcE2, wE_bind, wE_ite, wE_ok, wS_of, wS_ite, wS_nx, wS_rt]
  repeat (refine wE_ext fun _ _ => ?_; try simp only [wE_bind, wE_ite, wE_ok, wS_of, wS_ite, wS_nx, wS_rt])
@[simp ↓] theorem w_iK {Q : List D → Hh → Prop} : wE (iK a ρ h) Q X = wE (a ρ h) (fun x h1 => wE (keysD x h1) Q X) X := by
  simp only [iK, wE_bind, wE_ite, wE_ok, wS_of, wS_ite, wS_nx, wS_rt]
  repeat (refine wE_ext fun _ _ => ?_; try simp only [wE_bind, wE_ite, wE_ok, wS_of, wS_ite, wS_nx, wS_rt])
@[simp ↓] theorem w_iR1 {Q : List D → Hh → Prop} : wE (iR1 fs ρ h) Q X = wE (fs ρ h) (fun ds h1 => wE (rng1D ds h1) Q X) X := by
  simp only [iR1_at, wE_bind, wE_ite, wE_ok, wS_of, wS_ite, wS_nx, wS_rt]
  repeat (refine wE_ext fun _ _ => ?_; try simp only [wE_bind, wE_ite, wE_ok, wS_of, wS_ite, wS_nx, wS_rt])
@[simp ↓] theorem w_iR2 {Q : List D → Hh → Prop} : wE (iR2 fs ρ h) Q X = wE (fs ρ h) (fun ds h1 => wE (rng2D ds h1) Q X) X := by
  simp only [iR2, wE_bind, wE_ite, wE_ok, wS_of, wS_ite, wS_nx, wS_rt]
  repeat (refine wE_ext fun _ _ => ?_; try simp only [wE_bind, wE_ite, wE_ok, wS_of, wS_ite, wS_nx, wS_rt])
@[simp ↓] theorem w_GoD {Q : D → Hh → Prop} : wE (xGoD a ρ h) Q X = wE (a ρ h) (fun d h1 => wE (match d with | .ref n => (match h1[n]? with | some (.dct kds) => .ok (.dct kds) (h1.set n .gone) | _ => .bad) | _ => .bad : Res D) Q X) X := by
  simp only [xGoD, wE_bind, wE_ite, wE_ok, wS_of, wS_ite, wS_nx, wS_rt]
  repeat (refine wE_ext fun _ _ => ?_; try simp only [wE_bind, wE_ite, wE_ok, wS_of, wS_ite, wS_nx, wS_rt])
@[simp ↓] theorem w_SrtD {Q : D → Hh → Prop} : wE (xSrtD a ρ h) Q X = wE (a ρ h) (fun d h1 => wE (match (asD h1 d).bind strKeys with | some ks => if decide (ks.length < 64) then .ok (.lst ((ks.mergeSort sle).map .str)) h1 else .bad | none => .bad : Res D) Q X) X := by
  simp only [xSrtD, wE_bind, wE_ite, wE_ok, wS_of, wS_ite, wS_nx, wS_rt]
  repeat (refine wE_ext fun _ _ => ?_; try simp only [wE_bind, wE_ite, wE_ok, wS_of, wS_ite, wS_nx, wS_rt])
@[simp ↓] theorem w_Get2 {kk z : Fn} {Q : D → Hh → Prop} : wE (xGet2 a kk z ρ h) Q X = wE (a ρ h) (fun d h1 => wE (match asD h1 d with
  | some _ => (kk ρ h1).bind fun y h2 => (z ρ h2).bind fun z h3 => match asD h3 d, toK y with
    | some kds, some ky => .ok ((dfind kds ky).getD z) h3
    | _, _ => .bad
  | none => .bad : Res D) Q X) X := by simp only [get2_at, wE_bind]
@[simp ↓] theorem w_Exn {c : Str} {n : Nat} {Q : D → Hh → Prop} : wE (xExn c n fs ρ h) Q X = wE (fs ρ h) (fun ds h1 => wE (if ds.length = n then .ok (.exn c ds) h1 else .bad : Res D) Q X) X := by
  simp only [xExn, wE_bind, wE_ite, wE_ok, wS_of, wS_ite, wS_nx, wS_rt]
  repeat (refine wE_ext fun _ _ => ?_; try simp only [wE_bind, wE_ite, wE_ok, wS_of, wS_ite, wS_nx, wS_rt])
@[simp ↓] theorem w_If {za zb : Fs} : wS (zIf t za zb ρ h) N R X = wE (t ρ h) (fun c h1 => if c then wS (za ρ h1) N R X else wS (zb ρ h1) N R X) X := by
  simp only [zIf_at, wE_bind, wE_ite, wE_ok, wS_of, wS_ite, wS_nx, wS_rt]
  repeat (refine wE_ext fun _ _ => ?_; try simp only [wE_bind, wE_ite, wE_ok, wS_of, wS_ite, wS_nx, wS_rt])
@[simp ↓] theorem w_RetN : wS (zRetN ρ h) N R X = R .non h := by
  simp only [zRetN, wE_bind, wE_ite, wE_ok, wS_of, wS_ite, wS_nx, wS_rt]
  repeat (refine wE_ext fun _ _ => ?_; try simp only [wE_bind, wE_ite, wE_ok, wS_of, wS_ite, wS_nx, wS_rt])
@[simp ↓] theorem w_Par {i j : Nat} : wS (zPar i j fs ρ h) N R X = wE (fs ρ h) (fun ds h1 => wS (match ds with | [d, e] => .nx ((ρ.set i (some d)).set j (some e)) h1 | _ => .bad) N R X) X := by
  simp only [zPar_at, wE_bind, wE_ite, wE_ok, wS_of, wS_ite, wS_nx, wS_rt]
  repeat (refine wE_ext fun _ _ => ?_; try simp only [wE_bind, wE_ite, wE_ok, wS_of, wS_ite, wS_nx, wS_rt])
@[simp ↓] theorem w_Asg {tg : Fg} : wS (zAsg tg a ρ h) N R X = wE (a ρ h) (fun d h1 => wS (match tg d ρ with | some ρ1 => .nx ρ1 h1 | none => .bad) N R X) X := by
  simp only [zAsg_at, wE_bind, wE_ite, wE_ok, wS_of, wS_ite, wS_nx, wS_rt]
  repeat (refine wE_ext fun _ _ => ?_; try simp only [wE_bind, wE_ite, wE_ok, wS_of, wS_ite, wS_nx, wS_rt])
  all_goals rfl
@[simp ↓] theorem w_SetKy {cc : Fn} : wS (zSetKy a b cc ρ h) N R X = wE (cc ρ h) (fun v h1 => wE (a ρ h1) (fun o h2 => wE (b ρ h2) (fun i h3 => wS (match setKy o i v h3 with | some h4 => .nx ρ h4 | none => .bad) N R X) X) X) X := by
  simp only [zSetKy, wE_bind, wE_ite, wE_ok, wS_of, wS_ite, wS_nx, wS_rt]
  repeat (refine wE_ext fun _ _ => ?_; try simp only [wE_bind, wE_ite, wE_ok, wS_of, wS_ite, wS_nx, wS_rt])
  all_goals rfl
@[simp ↓] theorem w_SetIx {cc : Fn} : wS (zSetIx a b cc ρ h) N R X = wE (cc ρ h) (fun v h1 => wE (a ρ h1) (fun o h2 => wE (b ρ h2) (fun i h3 => wS (match setAt o i v h3 with | some h4 => .nx ρ h4 | none => .bad) N R X) X) X) X := by
  simp only [zSetIx_at, wE_bind, wE_ite, wE_ok, wS_of, wS_ite, wS_nx, wS_rt]
  repeat (refine wE_ext fun _ _ => ?_; try simp only [wE_bind, wE_ite, wE_ok, wS_of, wS_ite, wS_nx, wS_rt])
  all_goals rfl
@[simp ↓] theorem w_Raise {c : Str} {n : Nat} : wS (zRaise c n fs ρ h) N R X = wE (fs ρ h) (fun ds h1 => ds.length = n ∧ X c ds h1) X := by
  simp only [raise_at, wS_of]
  cases fs ρ h with
  | ok ds h1 => simp only [wE_ok]; by_cases k : ds.length = n <;> simp [k]
  | exc => simp only [wE_exc]
  | bad => simp only [wE_bad]
@[simp ↓] theorem w_For {it : Fl} {tg : Fg} {za : Fs} : wS (zFor it tg za ρ h) N R X = wE (it ρ h) (fun ds h1 => wS (loopS tg za ds ρ h1) N R X) X := by
  simp only [zFor_at, wE_bind, wE_ite, wE_ok, wS_of, wS_ite, wS_nx, wS_rt]
  repeat (refine wE_ext fun _ _ => ?_; try simp only [wE_bind, wE_ite, wE_ok, wS_of, wS_ite, wS_nx, wS_rt])
end
end Bx
namespace Bx
open PySem PySem.Spec PyProof.Rows L2
open Kd
section
variable {T : Tab} {k j : Nat} {o : O} {r : Hh} {m : Int} {Q : D → Hh → Prop} {X : Xp}
/-- the law's drawing -/
structure Dr (T : Tab) : Prop where
  take : T "_law_take" = some ⟨2, 7, bTake⟩
  one : T "_law_one" = some ⟨2, 2, bOne⟩
theorem take_w (hT : Dr T) (B : Bg o) (hm : 0 < m) (hm2 : m < 1073741824) (q : ∀ v o', Bg o' → 0 ≤ v → v < m → Q (.int v) (o' :: r)) : wE (callN T (k + 1) "_law_take" [.ref 0, .int m] (o :: r)) Q X := by
  obtain ⟨v, o', e, B', h0, h1⟩ := take_call hT.take (k := k) (r := r) B hm hm2
  exact wE_of e (q v o' B' h0 h1)
theorem one_w (hT : Dr T) (B : Bg o) {xs : List D} (hx : 0 < xs.length) (hx2 : xs.length ≤ 1000) (q : ∀ x o', Bg o' → x ∈ xs → Q x (o' :: r)) : wE (callN T (k + 2) "_law_one" [.ref 0, .lst xs] (o :: r)) Q X := by
  obtain ⟨x, o', e, hx, B'⟩ := one_lst hT.take hT.one (j := k) (r := r) B hx hx2
  exact wE_of e (q x o' B' hx)
noncomputable def bKind (cl : Str → List D → Hh → Res D) : Fs :=
  zSeq (zSet 3 (xCall 2 (cl "_law_take") (xCons (xV 0) (xCons (xC (.int 4)) (xNil)))))
    (zSeq (zIf (yOr (yV (xBin ltD (xV 2) (xC (.int 2)))) (yV (xBin ltD (xV 3) (xC (.int 2))))) (zRet (xCall 2 (cl "_law_one") (xCons (xV 0) (xCons (xV 1) (xNil))))) (zNext))
    (zSeq (zIf (yOr (yV (xBin eqD (xV 3) (xC (.int 2)))) (yV (xBin ltD (xV 2) (xC (.int 3))))) (zRet (xTup (xCons (xC (.str "list")) (xCons (xCall 3 (cl "_law_kind") (xCons (xV 0) (xCons (xV 1) (xCons (xBin subD (xV 2) (xC (.int 1))) (xNil))))) (xNil))))) (zNext))
    (zSeq (zSet 4 (xBin addD (xC (.int 1)) (xCall 2 (cl "_law_take") (xCons (xV 0) (xCons (xBin subD (xV 2) (xC (.int 2))) (xNil))))))
    (zRet (xTup (xCons (xC (.str "pair")) (xCons (xCall 3 (cl "_law_kind") (xCons (xV 0) (xCons (xV 1) (xCons (xV 4) (xNil))))) (xCons (xCall 3 (cl "_law_kind") (xCons (xV 0) (xCons (xV 1) (xCons (xBin subD (xBin subD (xV 2) (xC (.int 1))) (xV 4)) (xNil))))) (xNil)))))))))
/-- a plain kind of names xs -/
def Pl (xs : List Str) : Kd → Prop
  | .nm x => x ∈ xs
  | .ls a => Pl xs a
  | .pr a b => Pl xs a ∧ Pl xs b
  | .fn _ _ => False
theorem sz2 : sz 2 = true := by decide
theorem sz3 : sz 3 = true := by decide
theorem kind_w (hT : Dr T) (hk : T "_law_kind" = some ⟨3, 5, bKind⟩) {xs : List Str} (N : Nms xs) {r : Hh} : ∀ (n : Nat) (u : Int) (o : O) (Q : D → Hh → Prop) (X : Xp), 1 ≤ u → u + 2 ≤ n → u ≤ 1000 → Bg o →
    (∀ (k : Kd) o', Bg o' → k.good → (k.size : Int) ≤ u → Pl xs k → Q k.enc (o' :: r)) → wE (callN T n "_law_kind" [.ref 0, .lst (xs.map .str), .int u] (o :: r)) Q X := by
  intro n
  induction n with
  | zero => intro u o Q X h1 h2; omega
  | succ n ih =>
    intro u o Q X h1 h2 h3 B q
    obtain ⟨n, rfl⟩ : ∃ i, n = i + 2 := ⟨n - 2, by omega⟩
    refine call_w hk rfl ?_
    simp [bKind, startR]
    refine take_w hT B (by decide) (by decide) fun v o1 B1 v0 v1 => ?_
    try simp
    have hone : ∀ Q', (∀ k o', Bg o' → k.good → (k.size : Int) ≤ u → Pl xs k → Q' k.enc (o' :: r)) → wE (callN T (n + 2) "_law_one" [D.ref 0, D.lst (List.map D.str xs)] (o1 :: r)) Q' (eX (o :: r) X) := fun Q' q' =>
      one_w hT B1 (by simpa using N.pos) (by simpa using N.few) fun x o2 B2 hx => by
        obtain ⟨y, hy, rfl⟩ := List.mem_map.mp hx
        exact q' (.nm y) o2 B2 (N.ss y hy) (by simpa [Kd.size] using h1) hy
    split
    · exact hone _ fun k o2 B2 g s p => by simpa using q k o2 B2 g s p
    try simp
    split
    · exact hone _ fun k o2 B2 g s p => by simpa using q k o2 B2 g s p
    try simp
    split
    · refine ih _ _ _ _ (by omega) (by omega) (by omega) B1 fun k o2 B2 g s p => ?_
      try simp
      exact q (.ls k) o2 B2 g (by simp only [Kd.size]; omega) p
    try simp
    split
    · refine ih _ _ _ _ (by omega) (by omega) (by omega) B1 fun k o2 B2 g s p => ?_
      try simp
      exact q (.ls k) o2 B2 g (by simp only [Kd.size]; omega) p
    try simp
    refine take_w hT B1 (by omega) (by omega) fun v o2 B2 v0 v1 => ?_
    try simp
    refine ih _ _ _ _ (by omega) (by omega) (by omega) B2 fun k o3 B3 g3 s3 p3 => ?_
    try simp
    refine ih _ _ _ _ (by omega) (by omega) (by omega) B3 fun l o4 B4 g4 s4 p4 => ?_
    try simp
    exact q (.pr k l) o4 B4 ⟨g3, g4⟩ (by simp only [Kd.size]; omega) ⟨p3, p4⟩
end
end Bx
namespace Bx
open PySem PySem.Spec PyProof.Rows L2
structure Pq (B m w : Nat) (p : PyData) : Prop where
  sh : p.showable = true
  ls : p.leavesShort B = true
  dp : p.depth ≤ m
  wt : p.weight ≤ w
structure Pqs (B m w : Nat) (ps : List PyData) : Prop where
  sh : PyData.showableAll ps = true
  ls : PyData.leavesShortAll B ps = true
  dp : PyData.depthAll ps ≤ m
  wt : PyData.weightAll ps ≤ w
def Da (B m w : Nat) (d : D) : Prop := ∃ p, cv d = some p ∧ Pq B m w p
def Das (B m w : Nat) (ds : List D) : Prop := ∃ ps, cvs ds = some ps ∧ Pqs B m w ps
section
variable {B m m' w w' x y : Nat} {d : D} {ds es : List D} {p : PyData} {ps qs : List PyData}
theorem Pq.mono (q : Pq B m w p) (h1 : m ≤ m') (h2 : w ≤ w') : Pq B m' w' p := ⟨q.sh, q.ls, Nat.le_trans q.dp h1, Nat.le_trans q.wt h2⟩
theorem Pqs.mono (q : Pqs B m w ps) (h1 : m ≤ m') (h2 : w ≤ w') : Pqs B m' w' ps := ⟨q.sh, q.ls, Nat.le_trans q.dp h1, Nat.le_trans q.wt h2⟩
theorem Da.mono (q : Da B m w d) (h1 : m ≤ m') (h2 : w ≤ w') : Da B m' w' d := by obtain ⟨p, e, q⟩ := q; exact ⟨p, e, q.mono h1 h2⟩
theorem Das.mono (q : Das B m w ds) (h1 : m ≤ m') (h2 : w ≤ w') : Das B m' w' ds := by obtain ⟨p, e, q⟩ := q; exact ⟨p, e, q.mono h1 h2⟩
theorem Pqs.nil : Pqs B m w [] := ⟨rfl, rfl, Nat.zero_le _, Nat.zero_le _⟩
theorem Pqs.cons (a : Pq B m x p) (b : Pqs B m y ps) (h : x + y + 1 ≤ w) : Pqs B m w (p :: ps) :=
  ⟨by simp [PyData.showableAll, a.sh, b.sh], by simp [PyData.leavesShortAll, a.ls, b.ls], by simp only [PyData.depthAll]; exact Nat.max_le.mpr ⟨a.dp, b.dp⟩, by simp only [PyData.weightAll]; have := a.wt; have := b.wt; omega⟩
theorem Pqs.uncons (q : Pqs B m w (p :: ps)) : ∃ x y, Pq B m x p ∧ Pqs B m y ps ∧ x + y + 1 ≤ w := by
  have h1 : p.showable = true ∧ PyData.showableAll ps = true := by simpa [PyData.showableAll] using q.sh
  have h2 : p.leavesShort B = true ∧ PyData.leavesShortAll B ps = true := by simpa [PyData.leavesShortAll] using q.ls
  have h3 := q.dp
  have h4 := q.wt
  simp only [PyData.depthAll, PyData.weightAll] at h3 h4
  exact ⟨p.weight, PyData.weightAll ps, ⟨h1.1, h2.1, by omega, Nat.le_refl _⟩, ⟨h1.2, h2.2, by omega, Nat.le_refl _⟩, by omega⟩
theorem Pqs.append : ∀ {ps : List PyData} {x w : Nat}, Pqs B m x ps → Pqs B m y qs → x + y ≤ w → Pqs B m w (ps ++ qs)
  | [], x, w, a, b, h => b.mono (Nat.le_refl _) (by omega)
  | p :: ps, x, w, a, b, h => by
    obtain ⟨u, v, a1, a2, h2⟩ := a.uncons
    exact .cons a1 (Pqs.append a2 b (Nat.le_refl _)) (by omega)
theorem Pqs.len : ∀ {ps : List PyData} {w : Nat}, Pqs B m w ps → ps.length ≤ w
  | [], _, _ => Nat.zero_le _
  | p :: ps, w, q => by
    obtain ⟨x, y, _, b, h⟩ := q.uncons
    have := Pqs.len b
    simp only [List.length_cons]
    omega
theorem Pq.tup (q : Pqs B m w ps) : Pq B (m + 1) w (.tuple ps) := ⟨q.sh, q.ls, by simp only [PyData.depth]; have := q.dp; omega, q.wt⟩
theorem Pq.lst (q : Pqs B m w ps) : Pq B (m + 1) w (.list ps) := ⟨q.sh, q.ls, by simp only [PyData.depth]; have := q.dp; omega, q.wt⟩
theorem Pq.untup (q : Pq B m w (.tuple ps)) : ∃ n, m = n + 1 ∧ Pqs B n w ps := by
  have h := q.dp
  simp only [PyData.depth] at h
  exact ⟨m - 1, by omega, q.sh, q.ls, by omega, q.wt⟩
theorem Da.any {f : Nat → Option PyData} (q : Da B m w d) : ∃ p, toP f d = some p ∧ Pq B m w p := by
  obtain ⟨p, e, q⟩ := q
  exact ⟨p, toP_any e, q⟩
theorem Das.nil : Das B m w [] := ⟨[], rfl, .nil⟩
theorem Das.cons (a : Da B m x d) (b : Das B m y ds) (h : x + y + 1 ≤ w) : Das B m w (d :: ds) := by
  obtain ⟨p, e1, a⟩ := a
  obtain ⟨ps, e2, b⟩ := b
  exact ⟨p :: ps, by simp only [cvs, toPs] at e2 ⊢; simp only [cv] at e1; rw [e1, e2], .cons a b h⟩
theorem Das.uncons (q : Das B m w (d :: ds)) : ∃ x y, Da B m x d ∧ Das B m y ds ∧ x + y + 1 ≤ w := by
  obtain ⟨ps, e, q⟩ := q
  simp only [cvs, toPs] at e
  split at e
  · rename_i p qs e1 e2
    cases e
    obtain ⟨x, y, a, b, h⟩ := q.uncons
    exact ⟨x, y, ⟨p, e1, a⟩, ⟨qs, e2, b⟩, h⟩
  · cases e
theorem Das.append (a : Das B m x ds) (b : Das B m y es) (h : x + y ≤ w) : Das B m w (ds ++ es) := by
  obtain ⟨ps, e1, a⟩ := a
  obtain ⟨qs, e2, b⟩ := b
  exact ⟨ps ++ qs, cvs_app e1 e2, a.append b h⟩
theorem Das.one (a : Da B m x d) (h : x + 1 ≤ w) : Das B m w [d] := .cons a (.nil (w := 0)) (by omega)
theorem Das.len (q : Das B m w ds) : ds.length ≤ w := by
  obtain ⟨ps, e, q⟩ := q
  rw [toPs_len e]
  exact q.len
theorem Das.split : ∀ {ds : List D} {w i : Nat} {d : D}, Das B m w ds → ds[i]? = some d → ∃ x y z, Das B m x (ds.take i) ∧ Da B m y d ∧ Das B m z (ds.drop (i + 1)) ∧ x + y + z + 1 ≤ w
  | [], _, _, _, _, e => by simp at e
  | a :: ds, w, 0, d, q, e => by
    simp at e
    subst e
    obtain ⟨x, y, p, r, h⟩ := q.uncons
    exact ⟨0, x, y, .nil, p, r, by omega⟩
  | a :: ds, w, i + 1, d, q, e => by
    obtain ⟨x, y, p, r, h⟩ := q.uncons
    obtain ⟨x1, y1, z1, r1, r2, r3, h1⟩ := Das.split (i := i) r (by simpa using e)
    exact ⟨x + x1 + 1, y1, z1, .cons p r1 (Nat.le_refl _), r2, r3, by omega⟩
theorem Da.tup (q : Das B m w ds) : Da B (m + 1) w (.tup ds) := by
  obtain ⟨ps, e, q⟩ := q
  exact ⟨.tuple ps, by simp only [cv, toP]; simp only [cvs] at e; rw [e]; rfl, .tup q⟩
theorem Da.lst (q : Das B m w ds) : Da B (m + 1) w (.lst ds) := by
  obtain ⟨ps, e, q⟩ := q
  exact ⟨.list ps, by simp only [cv, toP]; simp only [cvs] at e; rw [e]; rfl, .lst q⟩
theorem Da.untup (q : Da B m w (.tup ds)) : ∃ n, m = n + 1 ∧ Das B n w ds := by
  obtain ⟨p, e, q⟩ := q
  simp only [cv, toP, Option.map_eq_some_iff] at e
  obtain ⟨ps, e, rfl⟩ := e
  obtain ⟨n, rfl, q2⟩ := q.untup
  exact ⟨n, rfl, ps, e, q2⟩
theorem ls_str {x : Str} (h : ∀ c ∈ x.cps.toList, c < 16 ^ 8) : (PyData.str x).leavesShort B = true := by
  simp only [PyData.leavesShort, List.all_eq_true, decide_eq_true_eq]
  exact h
theorem Da.str {x : Str} (h : ∀ c ∈ x.cps.toList, c < 16 ^ 8) (hw : x.length ≤ w) : Da B m w (.str x) := ⟨.str x, rfl, rfl, ls_str h, Nat.zero_le _, hw⟩
theorem Da.ss {x : Str} {n : Nat} (s : SS n x) (hw : n ≤ w) : Da B m w (.str x) := .str (fun c hc => Nat.lt_of_le_of_lt (s.sm c hc).2 (by decide)) (Nat.le_trans s.le hw)
theorem Da.non : Da B m w .non := ⟨.none, rfl, rfl, rfl, Nat.zero_le _, Nat.zero_le _⟩
theorem Da.bl {b : Bool} : Da B m w (.bl b) := ⟨.bool b, rfl, rfl, rfl, Nat.zero_le _, Nat.zero_le _⟩
/-- by computing -/
def daB (B m w : Nat) (d : D) : Bool := match cv d with
  | some p => p.showable && (p.leavesShort B && (decide (p.depth ≤ m) && decide (p.weight ≤ w)))
  | none => false
theorem da_of (h : daB B m w d = true) : Da B m w d := by
  unfold daB at h
  split at h
  · rename_i p e
    simp only [Bool.and_eq_true, decide_eq_true_eq] at h
    exact ⟨p, e, h.1, h.2.1, h.2.2.1, h.2.2.2⟩
  · cases h
/-- the text of data -/
theorem Pq.short (q : Pq B m w p) (hB : 8 ≤ B) : p.shown.length ≤ (B + 2) * w + B :=
  Nat.le_trans (PyData.shown_le B hB p q.ls) (Nat.add_le_add_right (Nat.mul_le_mul_left _ q.wt) _)
theorem Da.repr (q : Da B m w d) (hB : 8 ≤ B) (hm : m ≤ 150) (hw : (B + 2) * w + B ≤ 16777216) : ∃ s, ∀ h, biS .repr [d] h = .ok (.str s) h := by
  obtain ⟨p, e, q⟩ := q
  refine ⟨p.shown, fun h => ?_⟩
  have hz : sz p.shown.length = true := by
    simp only [sz, decide_eq_true_eq]
    exact Nat.le_trans (q.short hB) (Nat.le_trans hw (by decide))
  have e' : toD h d = some p := toP_any e
  simp only [biS, bRepr, e', q.sh, hz, decide_eq_true (Nat.le_trans q.dp hm), Bool.and_self, if_true]
end
namespace Kd
theorem dat_wt {k : Kd} (g : k.good) : k.dat.weight + 1 ≤ 9 * k.size := by
  induction k with
  | nm x =>
    have := g.1.le
    simp only [dat, PyData.weight, size]
    have e : x.length = x.cps.size := rfl
    omega
  | ls a ih =>
    have := ih g
    have e : (PyData.str "list").weight = 4 := rfl
    simp only [dat, PyData.weight, PyData.weightAll, size] at *
    omega
  | pr a b iha ihb =>
    have := iha g.1
    have := ihb g.2
    have e : (PyData.str "pair").weight = 4 := rfl
    simp only [dat, PyData.weight, PyData.weightAll, size] at *
    omega
  | fn a b iha ihb =>
    have := iha g.1
    have := ihb g.2
    have e : (PyData.str "fun").weight = 3 := rfl
    simp only [dat, PyData.weight, PyData.weightAll, size] at *
    omega
theorem dat_ls {k : Kd} (g : k.good) (B : Nat) : k.dat.leavesShort B = true := by
  induction k with
  | nm x => exact ls_str fun c hc => Nat.lt_of_le_of_lt (g.1.sm c hc).2 (show 122 < 16 ^ 8 by decide)
  | ls a ih =>
    have e : (PyData.str "list").leavesShort B = true := rfl
    simp only [dat, PyData.leavesShort, PyData.leavesShortAll, ih g] at *
    simp [e]
  | pr a b iha ihb =>
    have e : (PyData.str "pair").leavesShort B = true := rfl
    simp only [dat, PyData.leavesShort, PyData.leavesShortAll, iha g.1, ihb g.2] at *
    simp [e]
  | fn a b iha ihb =>
    have e : (PyData.str "fun").leavesShort B = true := rfl
    simp only [dat, PyData.leavesShort, PyData.leavesShortAll, iha g.1, ihb g.2] at *
    simp [e]
theorem pq {k : Kd} (g : k.good) {B : Nat} : Pq B k.depth (9 * k.size - 1) k.dat := ⟨(dg g).sh.sh, dat_ls g B, (dg g).sh.dp, by have := dat_wt g; omega⟩
theorem da {k : Kd} (g : k.good) {B : Nat} : Da B k.depth (9 * k.size - 1) k.enc := ⟨k.dat, cv_enc _ k, pq g⟩
end Kd
end Bx
namespace Bx
open PySem PySem.Spec PyProof.Rows L2
section
variable {T : Tab} {h : Hh} {j k : Nat} {d : D}
/-- neither a text nor a tuple -/
structure Oth (d : D) : Prop where
  s : ∀ h, biS .isi [d, .val (.ty "str")] h = .ok (.bl false) h
  t : ∀ h, biS .isi [d, .val (.ty "tuple")] h = .ok (.bl false) h
  n : nmB d = false
  ns : ∀ x, d ≠ .str x
  nt : ∀ x, d ≠ .tup x
theorem trk_cases (tr : trk k d = true) : (∃ x, d = .str x ∧ x.length ≤ 1000) ∨ (∃ ds k', d = .tup ds ∧ k = k' + 1 ∧ ds.length ≤ 1000 ∧ ∀ x ∈ ds, trk k' x = true) ∨ Oth d := by
  cases d with
  | str x => exact .inl ⟨x, rfl, by simpa [trk] using tr⟩
  | tup ds =>
    obtain ⟨k', e, h1, h2⟩ := tr_tup tr
    exact .inr (.inl ⟨ds, k', rfl, e, h1, h2⟩)
  | non => exact .inr (.inr ⟨fun _ => by simp, fun _ => by simp, rfl, by simp, by simp⟩)
  | bl b => exact .inr (.inr ⟨fun _ => by simp, fun _ => by simp, rfl, by simp, by simp⟩)
  | int b => exact .inr (.inr ⟨fun _ => by simp, fun _ => by simp, rfl, by simp, by simp⟩)
  | lst b => exact .inr (.inr ⟨fun _ => by simp, fun _ => by simp, rfl, by simp, by simp⟩)
  | dct b => exact .inr (.inr ⟨fun _ => by simp, fun _ => by simp, rfl, by simp, by simp⟩)
  | obj b c => cases k <;> simp [trk] at tr
  | exn b c => cases k <;> simp [trk] at tr
  | cau b c e f => cases k <;> simp [trk] at tr
  | ref b => cases k <;> simp [trk] at tr
  | scr b => cases k <;> simp [trk] at tr
  | val b => cases k <;> simp [trk] at tr
theorem trk_mono : ∀ {k m : Nat} {d : D}, k ≤ m → trk k d = true → trk m d = true
  | 0, m, d, _, tr => by
    rcases trk_cases tr with ⟨x, rfl, hx⟩ | ⟨ds, k', rfl, e, _⟩ | o
    · simpa [trk] using hx
    · omega
    · cases d <;> first | exact absurd rfl (o.nt _) | exact absurd rfl (o.ns _) | (cases m <;> first | rfl | simp [trk] at tr)
  | k + 1, 0, d, h, tr => by omega
  | k + 1, m + 1, d, h, tr => by
    cases d with
    | tup ds =>
      simp only [trk, Bool.and_eq_true, decide_eq_true_eq, List.all_eq_true] at tr ⊢
      exact ⟨tr.1, fun x hx => trk_mono (by omega) (tr.2 x hx)⟩
    | _ => first | exact tr | simp [trk] at tr ⊢
theorem in_tupS {x : Str} {ys : List Str} : inB (.str x) (.tup (ys.map .str)) h = some (decide (x ∈ ys)) := by
  have e : toD h (.tup (ys.map .str)) = some (.tuple (ys.map .str)) := by
    have := toDs_strs (h := h) ys
    simp only [toDs] at this
    simp only [toD, toP, this, Option.map_some]
  have hp : PyData.plainAll (ys.map PyData.str) = true := by
    clear e
    induction ys with
    | nil => rfl
    | cons a l ih => simp only [List.map_cons, PyData.plainAll, PyData.plain, ih, Bool.and_self]
  have hx : toD h (.str x) = some (.str x) := rfl
  have ha : asD h (.tup (ys.map .str)) = none := rfl
  simp only [inB, ha, e, hx, hp, dOk, PyData.plain, PyData.depth, Nat.zero_le, decide_true, Bool.and_self, if_true, Option.some.injEq]
  clear e hp ha
  induction ys with
  | nil => rfl
  | cons a l ih =>
    simp only [List.map_cons, List.any_cons, ih, PyData.eqv, List.mem_cons]
    by_cases c : x = a
    · subst c; simp
    · simp [c, Ne.symm c]
@[simp] theorem nin_T2 {x a b : Str} : ninD (.str x) (.tup [.str a, .str b]) h = .ok (.bl (!decide (x ∈ [a, b]))) h := by
  simp only [ninD, show (D.tup [.str a, .str b]) = .tup ([a, b].map .str) from rfl, in_tupS]
@[simp] theorem in_T2 {x a b : Str} : inD (.str x) (.tup [.str a, .str b]) h = .ok (.bl (decide (x ∈ [a, b]))) h := by
  simp only [inD, show (D.tup [.str a, .str b]) = .tup ([a, b].map .str) from rfl, in_tupS]
@[simp] theorem nin_T3 {x a b c : Str} : ninD (.str x) (.tup [.str a, .str b, .str c]) h = .ok (.bl (!decide (x ∈ [a, b, c]))) h := by
  simp only [ninD, show (D.tup [.str a, .str b, .str c]) = .tup ([a, b, c].map .str) from rfl, in_tupS]
@[simp] theorem nin_T4 {x a b c d : Str} : ninD (.str x) (.tup [.str a, .str b, .str c, .str d]) h = .ok (.bl (!decide (x ∈ [a, b, c, d]))) h := by
  simp only [ninD, show (D.tup [.str a, .str b, .str c, .str d]) = .tup ([a, b, c, d].map .str) from rfl, in_tupS]
@[simp] theorem nin23 {n : Int} : ninD (.int n) (.tup [.int 2, .int 3]) h = .ok (.bl (!(decide (n = 2) || decide (n = 3)))) h := by
  simp [ninD, inB, asD, toD, toP, toPs, dOk, PyData.plain, PyData.plainAll, PyData.depth, PyData.depthAll, PyData.eqv]
  by_cases h1 : n = 2 <;> by_cases h2 : n = 3 <;> simp [h1, h2] <;> omega
theorem kdB_one {a : D} {ws : List Str} : kdB (k + 1) ws (.tup [a]) = false := by
  cases a <;> first | rfl | (simp only [kdB, List.length_nil, wdt]; split <;> simp)
theorem kdB_oth {a : D} {ws : List Str} {r : List D} (o : Oth a) : kdB (k + 1) ws (.tup (a :: r)) = false := by
  cases a <;> first | rfl | exact absurd rfl (o.ns _)
theorem law_is_kind_ok (L : NLf T) : ∀ (k : Nat) (d : D) (n : Nat), trk k d = true → k + 2 ≤ n → callN T n "_law_is_kind" [d] h = .ok (.bl (kdB k W3 d)) h := by
  intro k
  induction k with
  | zero =>
    intro d n tr hn
    obtain ⟨n, rfl⟩ : ∃ i, n = i + 2 := ⟨n - 2, by omega⟩
    have nm := law_is_name_ok L (h := h) (j := n) tr
    refine wE_is (call_w L.kd rfl ?_)
    rcases trk_cases tr with ⟨x, rfl, hx⟩ | ⟨ds, k', rfl, e, _⟩ | o
    · simp [bLIsKind, startR, nm, kdB_at]
    · omega
    · simp [bLIsKind, startR, o.t, nm, kdB_at o.nt]
  | succ k ih =>
    intro d n tr hn
    obtain ⟨n, rfl⟩ : ∃ i, n = i + 2 := ⟨n - 2, by omega⟩
    have nm := law_is_name_ok L (h := h) (j := n) tr
    refine wE_is (call_w L.kd rfl ?_)
    rcases trk_cases tr with ⟨x, rfl, hx⟩ | ⟨ds, k', rfl, e, hl, hp⟩ | o
    · simp [bLIsKind, startR, nm, kdB_at]
    · obtain rfl : k = k' := by omega
      have hf : ∀ {a : D} {r : List D}, (∀ x ∈ r, trk k x = true) → ∀ x ∈ r, (yNot (yV (xCall 1 (callN T (n + 1) "_law_is_kind") (xCons (xV 1) xNil)))) ([some a, none].set 1 (some x)) h = .ok (!kdB k W3 x) h := fun hr x hx => by
        simp [ih x (n + 1) (hr x hx) (by omega)]
      rcases ds with _ | ⟨a, _ | ⟨b, r⟩⟩
      · simp [bLIsKind, startR, kdB]
      · simp [bLIsKind, startR, kdB_one]
      · have ha := hp a (List.mem_cons_self ..)
        have hr : ∀ x ∈ b :: r, trk k x = true := fun x hx => hp x (List.mem_cons_of_mem _ hx)
        rcases trk_cases ha with ⟨x, rfl, hx⟩ | ⟨us, k', rfl, e, _⟩ | o
        · rcases r with _ | ⟨c, _ | ⟨f, r⟩⟩
          · by_cases h1 : x = "list"
            · subst h1
              simp [bLIsKind, startR, kdB, wdt]
              refine filt_w (hf hr) (fun x hx => by simp) ?_
              simp [List.filter_cons, kdB, wdt]
              cases kdB k W3 b <;> simp
            by_cases h2 : x = "pair"
            · subst h2
              simp [bLIsKind, startR, kdB, wdt]
            by_cases h3 : x = "fun"
            · subst h3
              simp [bLIsKind, startR, kdB, wdt]
            simp [bLIsKind, startR, kdB, wdt, h1, h2, h3]
          · by_cases h1 : x = "list"
            · subst h1
              simp [bLIsKind, startR, kdB, wdt]
            by_cases h2 : x = "pair"
            · subst h2
              simp [bLIsKind, startR, kdB, wdt]
              refine filt_w (hf hr) (fun x hx => by simp) ?_
              simp [List.filter_cons, kdB, wdt]
              cases kdB k W3 b <;> cases kdB k W3 c <;> simp
            by_cases h3 : x = "fun"
            · subst h3
              simp [bLIsKind, startR, kdB, wdt]
              refine filt_w (hf hr) (fun x hx => by simp) ?_
              simp [List.filter_cons, kdB, wdt]
              cases kdB k W3 b <;> cases kdB k W3 c <;> simp
            simp [bLIsKind, startR, kdB, wdt, h1, h2, h3]
          · have e4 : ¬ (r.length : Int) + 1 + 1 + 1 + 1 = 2 ∧ ¬ (r.length : Int) + 1 + 1 + 1 + 1 = 3 := by omega
            simp [bLIsKind, startR, kdB, wdt]
            rw [if_pos e4]
            intro _ z
            have z := of_decide_eq_true z
            split at z <;> omega
        · simp [bLIsKind, startR, kdB]
        · simp [bLIsKind, startR, o.s, kdB_oth o]
    · simp [bLIsKind, startR, o.t, nm, kdB_at o.nt]
end
end Bx
namespace Bx
open PySem PySem.Spec PyProof.Rows L2
def w_WORDS : List (Str × D) := [("name", .int 1), ("call", .int 2), ("both", .int 2), ("row", .int 2), ("as", .int 2)]
noncomputable def bIsTerm (cl : Str → List D → Hh → Res D) : Fs :=
  zSeq (zIf (yOr (yNot (yV (xBi .isi (xCons (xV 0) (xCons (xC (.val (.ty "tuple"))) (xNil)))))) (yOr (yV (xBin ltD (xBi .len (xCons (xV 0) (xNil))) (xC (.int 2)))) (yOr (yNot (yV (xBi .isi (xCons (xIdx (xV 0) (xC (.int 0))) (xCons (xC (.val (.ty "str"))) (xNil)))))) (yV (xNinW w_WORDS (xIdx (xV 0) (xC (.int 0)))))))) (zRet (xC (.bl false))) (zNext))
    (zSeq (zIf (yV (xBin neD (xBi .len (xCons (xV 0) (xNil))) (xBin addD (xIdxW w_WORDS (xIdx (xV 0) (xC (.int 0)))) (xC (.int 1))))) (zRet (xC (.bl false))) (zNext))
    (zSeq (zIf (yV (xBin eqD (xIdx (xV 0) (xC (.int 0))) (xC (.str "name")))) (zRet (xCall 1 (cl "is_name") (xCons (xIdx (xV 0) (xC (.int 1))) (xNil)))) (zNext))
    (zSeq (zIf (yV (xBin eqD (xIdx (xV 0) (xC (.int 0))) (xC (.str "row")))) (zRet (xAnd (xCall 1 (cl "is_kind") (xCons (xIdx (xV 0) (xC (.int 1))) (xNil))) (xAnd (xBi .isi (xCons (xIdx (xV 0) (xC (.int 2))) (xCons (xC (.val (.ty "tuple"))) (xNil)))) (xBi .all (xCons (xLcG lcF (iV (xIdx (xV 0) (xC (.int 2)))) [1] (gN 1) (yYes) (xCall 1 (cl "is_term") (xCons (xV 1) (xNil)))) (xNil)))))) (zNext))
    (zSeq (zIf (yV (xBin eqD (xIdx (xV 0) (xC (.int 0))) (xC (.str "call")))) (zRet (xAnd (xCall 1 (cl "is_name") (xCons (xIdx (xV 0) (xC (.int 1))) (xNil))) (xCall 1 (cl "is_term") (xCons (xIdx (xV 0) (xC (.int 2))) (xNil))))) (zNext))
    (zRet (xAnd (xCall 1 (cl "is_term") (xCons (xIdx (xV 0) (xC (.int 2))) (xNil))) (xIfe (yV (xBin eqD (xIdx (xV 0) (xC (.int 0))) (xC (.str "both")))) (xCall 1 (cl "is_term") (xCons (xIdx (xV 0) (xC (.int 1))) (xNil))) (xCall 1 (cl "is_kind") (xCons (xIdx (xV 0) (xC (.int 1))) (xNil))))))))))
noncomputable def bLIsTerm (cl : Str → List D → Hh → Res D) : Fs :=
  zSeq (zIf (yOr (yNot (yV (xBi .isi (xCons (xV 0) (xCons (xC (.val (.ty "tuple"))) (xNil)))))) (yOr (yV (xBin ninD (xBi .len (xCons (xV 0) (xNil))) (xTup (xCons (xC (.int 2)) (xCons (xC (.int 3)) (xNil)))))) (yNot (yV (xBi .isi (xCons (xIdx (xV 0) (xC (.int 0))) (xCons (xC (.val (.ty "str"))) (xNil)))))))) (zRet (xC (.bl false))) (zNext))
    (zSeq (zIf (yV (xBin eqD (xIdx (xV 0) (xC (.int 0))) (xC (.str "name")))) (zRet (xAnd (xBin eqD (xBi .len (xCons (xV 0) (xNil))) (xC (.int 2))) (xCall 1 (cl "_law_is_name") (xCons (xIdx (xV 0) (xC (.int 1))) (xNil))))) (zNext))
    (zSeq (zIf (yOr (yV (xBin ninD (xIdx (xV 0) (xC (.int 0))) (xTup (xCons (xC (.str "call")) (xCons (xC (.str "both")) (xCons (xC (.str "row")) (xCons (xC (.str "as")) (xNil)))))))) (yV (xBin neD (xBi .len (xCons (xV 0) (xNil))) (xC (.int 3))))) (zRet (xC (.bl false))) (zNext))
    (zSeq (zIf (yV (xBin eqD (xIdx (xV 0) (xC (.int 0))) (xC (.str "call")))) (zRet (xAnd (xCall 1 (cl "_law_is_name") (xCons (xIdx (xV 0) (xC (.int 1))) (xNil))) (xCall 1 (cl "_law_is_term") (xCons (xIdx (xV 0) (xC (.int 2))) (xNil))))) (zNext))
    (zSeq (zIf (yV (xBin eqD (xIdx (xV 0) (xC (.int 0))) (xC (.str "both")))) (zRet (xAnd (xCall 1 (cl "_law_is_term") (xCons (xIdx (xV 0) (xC (.int 1))) (xNil))) (xCall 1 (cl "_law_is_term") (xCons (xIdx (xV 0) (xC (.int 2))) (xNil))))) (zNext))
    (zSeq (zIf (yOr (yNot (yV (xCall 1 (cl "_law_is_kind") (xCons (xIdx (xV 0) (xC (.int 1))) (xNil))))) (yV (xBin eqD (xIdx (xV 0) (xC (.int 0))) (xC (.str "as"))))) (zRet (xAnd (xCall 1 (cl "_law_is_kind") (xCons (xIdx (xV 0) (xC (.int 1))) (xNil))) (xCall 1 (cl "_law_is_term") (xCons (xIdx (xV 0) (xC (.int 2))) (xNil))))) (zNext))
    (zRet (xAnd (xBi .isi (xCons (xIdx (xV 0) (xC (.int 2))) (xCons (xC (.val (.ty "tuple"))) (xNil)))) (xBin eqD (xLcG lcF (iV (xIdx (xV 0) (xC (.int 2)))) [1] (gN 1) (yNot (yV (xCall 1 (cl "_law_is_term") (xCons (xV 1) (xNil))))) (xV 1)) (xLst (xNil))))))))))
structure Tf (T : Tab) : Prop extends Nf T where
  tm : T "is_term" = some ⟨1, 2, bIsTerm⟩
structure TLf (T : Tab) : Prop extends NLf T where
  tm : T "_law_is_term" = some ⟨1, 2, bLIsTerm⟩
def rowB (f : D → Bool) : D → Bool
  | .tup ds => ds.all f
  | _ => false
def tmB : Nat → D → Bool
  | k + 1, .tup [.str w, a] => decide (w = "name") && nmB a
  | k + 1, .tup [.str w, a, b] =>
    if w = "call" then nmB a && tmB k b
    else if w = "both" then tmB k a && tmB k b
    else if w = "as" then kdB k W3 a && tmB k b
    else if w = "row" then kdB k W3 a && rowB (tmB k) b
    else false
  | _, _ => false
section
variable {T : Tab} {h : Hh} {j k n : Nat} {d : D}
theorem name_at (K : Nf T) (tr : trk k d = true) (hn : 1 ≤ n) : callN T n "is_name" [d] h = .ok (.bl (nmB d)) h := by
  obtain ⟨n, rfl⟩ : ∃ i, n = i + 1 := ⟨n - 1, by omega⟩
  exact is_name_ok K tr
theorem lname_at (K : NLf T) (tr : trk k d = true) (hn : 1 ≤ n) : callN T n "_law_is_name" [d] h = .ok (.bl (nmB d)) h := by
  obtain ⟨n, rfl⟩ : ∃ i, n = i + 1 := ⟨n - 1, by omega⟩
  exact law_is_name_ok K tr
theorem kind_at (K : Nf T) (tr : trk k d = true) (hn : k + 2 ≤ n) : callN T n "is_kind" [d] h = .ok (.bl (kdB k W3 d)) h := by
  obtain ⟨n, rfl⟩ : ∃ i, n = i + k + 2 := ⟨n - k - 2, by omega⟩
  exact is_kind_ok K k d n tr
theorem tmB_oth (o : Oth d) : tmB k d = false := by
  cases k <;> cases d <;> first | rfl | exact absurd rfl (o.nt _)
theorem tmB_str {x : Str} : tmB k (.str x) = false := by cases k <;> rfl
theorem tmB_short {a : D} : tmB (k + 1) (.tup [a]) = false := by cases a <;> rfl
theorem tmB_head {a : D} {r : List D} (ha : ∀ x, a ≠ .str x) : tmB (k + 1) (.tup (a :: r)) = false := by
  rcases r with _ | ⟨b, _ | ⟨c, _ | ⟨e, r⟩⟩⟩ <;> cases a <;> first | rfl | exact absurd rfl (ha _)
theorem tmB_long {a b c e : D} {r : List D} : tmB (k + 1) (.tup (a :: b :: c :: e :: r)) = false := by cases a <;> rfl
theorem lkw (x : Str) : (x = "name" ∧ w_WORDS.lookup x = some (.int 1)) ∨ (x ≠ "name" ∧ x ∈ (["call", "both", "row", "as"] : List Str) ∧ w_WORDS.lookup x = some (.int 2)) ∨ (x ≠ "name" ∧ x ≠ "call" ∧ x ≠ "both" ∧ x ≠ "row" ∧ x ≠ "as" ∧ w_WORDS.lookup x = none) := by
  by_cases h0 : x = "name"
  · exact .inl ⟨h0, by rw [h0]; rfl⟩
  by_cases h1 : x = "call"
  · exact .inr (.inl ⟨h0, by simp [h1], by rw [h1]; rfl⟩)
  by_cases h2 : x = "both"
  · exact .inr (.inl ⟨h0, by simp [h2], by rw [h2]; rfl⟩)
  by_cases h3 : x = "row"
  · exact .inr (.inl ⟨h0, by simp [h3], by rw [h3]; rfl⟩)
  by_cases h4 : x = "as"
  · exact .inr (.inl ⟨h0, by simp [h4], by rw [h4]; rfl⟩)
  refine .inr (.inr ⟨h0, h1, h2, h3, h4, ?_⟩)
  have g0 : (x == ("name" : Str)) = false := by simpa using h0
  have g1 : (x == ("call" : Str)) = false := by simpa using h1
  have g2 : (x == ("both" : Str)) = false := by simpa using h2
  have g3 : (x == ("row" : Str)) = false := by simpa using h3
  have g4 : (x == ("as" : Str)) = false := by simpa using h4
  simp only [w_WORDS, List.lookup, g0, g1, g2, g3, g4]
@[simp] theorem ninW_at {a : Fn} {ρ : Rho} {l : List (Str × D)} : xNinW l a ρ h = (a ρ h).bind fun x h1 => match x with | .str z => .ok (.bl (!(l.lookup z).isSome)) h1 | _ => .bad := rfl
@[simp] theorem rowB_tup {f : D → Bool} {ds : List D} : rowB f (.tup ds) = ds.all f := rfl
@[simp] theorem rowB_str {f : D → Bool} {x : Str} : rowB f (.str x) = false := rfl
@[simp] theorem all_map {α : Type} {p : α → Bool} {us : List α} : biS .all [.lst (us.map fun y => D.bl (p y))] h = .ok (.bl (us.all p)) h := by
  rw [show us.map (fun y => D.bl (p y)) = (us.map p).map D.bl by rw [List.map_map]; rfl]
  simp only [all_at, List.all_map]
  rfl
theorem row_oth {f : D → Bool} (o : Oth d) : rowB f d = false := by
  cases d <;> first | rfl | exact absurd rfl (o.nt _)
theorem filt_empty {p : D → Bool} {us : List D} : (us.filter fun y => !p y).isEmpty = us.all p := by
  induction us with
  | nil => rfl
  | cons a l ih => cases e : p a <;> simp [List.filter_cons, e] at ih ⊢; exact ih
theorem is_term_ok (K : Tf T) : ∀ (k : Nat) (d : D) (n : Nat), trk k d = true → k + 3 ≤ n → callN T n "is_term" [d] h = .ok (.bl (tmB k d)) h := by
  intro k
  induction k with
  | zero =>
    intro d n tr hn
    obtain ⟨n, rfl⟩ : ∃ i, n = i + 1 := ⟨n - 1, by omega⟩
    refine wE_is (call_w K.tm rfl ?_)
    rcases trk_cases tr with ⟨x, rfl, hx⟩ | ⟨ds, k', rfl, e, _⟩ | o
    · simp [bIsTerm, startR, tmB_str]
    · omega
    · simp [bIsTerm, startR, o.t, tmB_oth o]
  | succ k ih =>
    intro d n tr hn
    obtain ⟨n, rfl⟩ : ∃ i, n = i + 1 := ⟨n - 1, by omega⟩
    refine wE_is (call_w K.tm rfl ?_)
    rcases trk_cases tr with ⟨x, rfl, hx⟩ | ⟨ds, k', rfl, e, hl, hp⟩ | o
    · simp [bIsTerm, startR, tmB_str]
    · obtain rfl : k = k' := by omega
      rcases ds with _ | ⟨a, _ | ⟨b, r⟩⟩
      · simp [bIsTerm, startR, tmB]
      · simp [bIsTerm, startR, tmB_short]
      · have ha := hp a (List.mem_cons_self ..)
        have hb := hp b (List.mem_cons_of_mem _ (List.mem_cons_self ..))
        have n2 : ¬ ((r.length : Int) + 1 + 1 < 2) := by omega
        rcases trk_cases ha with ⟨x, rfl, hx⟩ | ⟨us, k', rfl, e, _⟩ | o
        · rcases r with _ | ⟨c, _ | ⟨f, r⟩⟩
          · rcases lkw x with ⟨rfl, e1⟩ | ⟨e0, e1, e2⟩ | ⟨e0, e1, e2, e3, e4, e5⟩
            · simp [bIsTerm, startR, tmB, e1, optD, name_at K.toNf hb (show 1 ≤ n by omega)]
            · simp [bIsTerm, startR, tmB, e0, e2, optD]
            · simp [bIsTerm, startR, tmB, e0, e5, optD]
          · have hc := hp c (by simp)
            have tb := ih b n hb (by omega)
            have tc := ih c n hc (by omega)
            have kb := kind_at K.toNf (h := h) hb (show k + 2 ≤ n by omega)
            rcases lkw x with ⟨rfl, e1⟩ | ⟨e0, e1, e2⟩ | ⟨e0, e1, e2, e3, e4, e5⟩
            · simp [bIsTerm, startR, tmB, e1, optD]
            · simp only [List.mem_cons, List.mem_nil_iff, or_false] at e1
              rcases e1 with rfl | rfl | rfl | rfl
              · simp [bIsTerm, startR, tmB, e2, optD, name_at K.toNf hb (show 1 ≤ n by omega), tc]
                cases nmB b <;> simp
              · simp [bIsTerm, startR, tmB, e2, optD, tb, tc]
                cases tmB k b <;> cases tmB k c <;> simp
              · rcases trk_cases hc with ⟨y, rfl, _⟩ | ⟨us, k', rfl, ek, hl2, hp2⟩ | o
                · simp [bIsTerm, startR, tmB, e2, optD, kb]
                · simp [bIsTerm, startR, tmB, e2, optD, kb]
                  cases hk : kdB k W3 b
                  · simp [tmB, hk]
                  · simp
                    refine ⟨by omega, map_w (f := fun y => .bl (tmB k y)) (fun y hy => by simp [ih y n (trk_mono (by omega) (hp2 y hy)) (by omega)]) ?_⟩
                    simp [tmB, hk]
                · simp [bIsTerm, startR, tmB, e2, optD, kb, o.t, row_oth o]
              · simp [bIsTerm, startR, tmB, e2, optD, kb, tc]
                cases kdB k W3 b <;> cases tmB k c <;> simp
            · simp [bIsTerm, startR, tmB, e0, e1, e2, e3, e4, e5, optD]
          · have l4 : ∀ v : Int, v ≤ 3 → ¬ (r.length : Int) + 1 + 1 + 1 + 1 = v := fun v hv => by omega
            rcases lkw x with ⟨rfl, e1⟩ | ⟨e0, e1, e2⟩ | ⟨e0, e1, e2, e3, e4, e5⟩
            · simp [bIsTerm, startR, tmB_long, n2, e1, optD, l4]
            · simp [bIsTerm, startR, tmB_long, n2, e0, e2, optD, l4]
            · simp [bIsTerm, startR, tmB_long, n2, e0, e5, optD, l4]
        · simp [bIsTerm, startR, n2, tmB_head]
        · simp [bIsTerm, startR, n2, o.s, tmB_head o.ns]
    · simp [bIsTerm, startR, o.t, tmB_oth o]
theorem law_is_term_ok (K : TLf T) : ∀ (k : Nat) (d : D) (n : Nat), trk k d = true → k + 3 ≤ n → callN T n "_law_is_term" [d] h = .ok (.bl (tmB k d)) h := by
  intro k
  induction k with
  | zero =>
    intro d n tr hn
    obtain ⟨n, rfl⟩ : ∃ i, n = i + 1 := ⟨n - 1, by omega⟩
    refine wE_is (call_w K.tm rfl ?_)
    rcases trk_cases tr with ⟨x, rfl, hx⟩ | ⟨ds, k', rfl, e, _⟩ | o
    · simp [bLIsTerm, startR, tmB_str]
    · omega
    · simp [bLIsTerm, startR, o.t, tmB_oth o]
  | succ k ih =>
    intro d n tr hn
    obtain ⟨n, rfl⟩ : ∃ i, n = i + 1 := ⟨n - 1, by omega⟩
    refine wE_is (call_w K.tm rfl ?_)
    rcases trk_cases tr with ⟨x, rfl, hx⟩ | ⟨ds, k', rfl, e, hl, hp⟩ | o
    · simp [bLIsTerm, startR, tmB_str]
    · obtain rfl : k = k' := by omega
      rcases ds with _ | ⟨a, _ | ⟨b, r⟩⟩
      · simp [bLIsTerm, startR, tmB]
      · simp [bLIsTerm, startR, tmB_short]
      · have ha := hp a (List.mem_cons_self ..)
        have hb := hp b (List.mem_cons_of_mem _ (List.mem_cons_self ..))
        rcases trk_cases ha with ⟨x, rfl, hx⟩ | ⟨us, k', rfl, e, _⟩ | o
        · rcases r with _ | ⟨c, _ | ⟨f, r⟩⟩
          · by_cases e0 : x = "name"
            · subst e0
              simp [bLIsTerm, startR, tmB, lname_at K.toNLf hb (show 1 ≤ n by omega)]
            · simp [bLIsTerm, startR, tmB, e0]
          · have hc := hp c (by simp)
            have tb := ih b n hb (by omega)
            have tc := ih c n hc (by omega)
            have kb := law_is_kind_ok K.toNLf (h := h) k b n hb (by omega)
            have nb := lname_at K.toNLf (h := h) hb (show 1 ≤ n by omega)
            by_cases e0 : x = "name"
            · subst e0
              simp [bLIsTerm, startR, tmB]
            by_cases e1 : x = "call"
            · subst e1
              simp [bLIsTerm, startR, tmB, nb, tc]
              cases nmB b <;> simp
            by_cases e2 : x = "both"
            · subst e2
              simp [bLIsTerm, startR, tmB, tb, tc]
              cases tmB k b <;> simp
            by_cases e3 : x = "as"
            · subst e3
              simp [bLIsTerm, startR, tmB, kb, tc]
              cases kdB k W3 b <;> simp
            by_cases e4 : x = "row"
            · subst e4
              rcases trk_cases hc with ⟨y, rfl, _⟩ | ⟨us, k', rfl, ek, hl2, hp2⟩ | o
              · simp [bLIsTerm, startR, tmB, kb]
                cases kdB k W3 b <;> simp
              · simp [bLIsTerm, startR, tmB, kb]
                cases hk : kdB k W3 b
                · simp [tmB, hk]
                · simp
                  refine ⟨by omega, filt_w (p := fun y => !tmB k y) (fun y hy => by simp [ih y n (trk_mono (by omega) (hp2 y hy)) (by omega)]) (fun _ _ => by simp) ?_⟩
                  simp [filt_empty, tmB, hk]
              · simp [bLIsTerm, startR, tmB, kb, o.t, row_oth o]
                cases kdB k W3 b <;> simp
            simp [bLIsTerm, startR, tmB, e0, e1, e2, e3, e4]
          · have e4 : ¬ (r.length : Int) + 1 + 1 + 1 + 1 = 2 ∧ ¬ (r.length : Int) + 1 + 1 + 1 + 1 = 3 := by omega
            simp [bLIsTerm, startR, tmB_long, e4]
        · simp [bLIsTerm, startR, tmB_head]
        · simp [bLIsTerm, startR, o.s, tmB_head o.ns]
    · simp [bLIsTerm, startR, o.t, tmB_oth o]
end
end Bx
namespace Bx
open PySem PySem.Spec PyProof.Rows L2
noncomputable def bLooked (cl : Str → List D → Hh → Res D) : Fs :=
  zSeq (zIf (yV (xBin eqD (xIdx (xV 1) (xC (.int 0))) (xC (.str "name")))) (zSeq (zIf (yV (xBin ninD (xIdx (xV 1) (xC (.int 1))) (xV 0))) (zRaise "NoName" 1 (xCons (xIdx (xV 1) (xC (.int 1))) (xNil))) (zNext))
    (zRet (xIdx (xV 0) (xIdx (xV 1) (xC (.int 1)))))) (zNext))
    (zSeq (zIf (yV (xBin eqD (xIdx (xV 1) (xC (.int 0))) (xC (.str "both")))) (zSeq (zSet 4 (xCall 3 (cl "looked") (xCons (xV 0) (xCons (xIdx (xV 1) (xC (.int 1))) (xCons (xV 2) (xNil))))))
    (zRet (xTup (xCons (xC (.str "pair")) (xCons (xV 4) (xCons (xCall 3 (cl "looked") (xCons (xV 0) (xCons (xIdx (xV 1) (xC (.int 2))) (xCons (xV 2) (xNil))))) (xNil))))))) (zNext))
    (zSeq (zIf (yV (xBin eqD (xIdx (xV 1) (xC (.int 0))) (xC (.str "call")))) (zSeq (zSet 5 (xGet2 (xV 0) (xIdx (xV 1) (xC (.int 1))) (xC (.str ""))))
    (zSeq (zIf (yOr (yNot (yV (xBi .isi (xCons (xV 5) (xCons (xC (.val (.ty "tuple"))) (xNil)))))) (yV (xBin neD (xIdx (xV 5) (xC (.int 0))) (xC (.str "fun"))))) (zRaise "NoName" 1 (xCons (xIdx (xV 1) (xC (.int 1))) (xNil))) (zNext))
    (zSeq (zExpr (xM mApp (xV 2) (xCons (xTup (xCons (xCall 3 (cl "looked") (xCons (xV 0) (xCons (xIdx (xV 1) (xC (.int 2))) (xCons (xV 2) (xNil))))) (xCons (xIdx (xV 5) (xC (.int 1))) (xNil)))) (xNil))))
    (zRet (xIdx (xV 5) (xC (.int 2))))))) (zNext))
    (zSeq (zIf (yV (xBin eqD (xIdx (xV 1) (xC (.int 0))) (xC (.str "as")))) (zSeq (zExpr (xM mApp (xV 2) (xCons (xTup (xCons (xCall 3 (cl "looked") (xCons (xV 0) (xCons (xIdx (xV 1) (xC (.int 2))) (xCons (xV 2) (xNil))))) (xCons (xIdx (xV 1) (xC (.int 1))) (xNil)))) (xNil))))
    (zRet (xIdx (xV 1) (xC (.int 1))))) (zNext))
    (zSeq (zFor (iV (xIdx (xV 1) (xC (.int 2)))) (gN 3) (zExpr (xM mApp (xV 2) (xCons (xTup (xCons (xCall 3 (cl "looked") (xCons (xV 0) (xCons (xV 3) (xCons (xV 2) (xNil))))) (xCons (xIdx (xV 1) (xC (.int 1))) (xNil)))) (xNil)))))
    (zRet (xTup (xCons (xC (.str "list")) (xCons (xIdx (xV 1) (xC (.int 1))) (xNil)))))))))
noncomputable def bKindOf (cl : Str → List D → Hh → Res D) : Fs :=
  zRet (xCall 3 (cl "looked") (xCons (xV 0) (xCons (xV 1) (xCons (xNlst (xNil)) (xNil)))))
noncomputable def bPlaces (cl : Str → List D → Hh → Res D) : Fs :=
  zSeq (zSet 2 (xNlst (xNil)))
    (zSeq (zExpr (xCall 3 (cl "looked") (xCons (xV 0) (xCons (xV 1) (xCons (xV 2) (xNil))))))
    (zRet (xV 2)))
noncomputable def bLLooked (cl : Str → List D → Hh → Res D) : Fs :=
  zSeq (zIf (yV (xBin eqD (xIdx (xV 1) (xC (.int 0))) (xC (.str "name")))) (zRet (xIfe (yV (xBin inD (xIdx (xV 1) (xC (.int 1))) (xV 0))) (xTup (xCons (xIdx (xV 0) (xIdx (xV 1) (xC (.int 1)))) (xCons (xLst (xNil)) (xNil)))) (xTup (xCons (xIdx (xV 1) (xC (.int 1))) (xCons (xC .non) (xNil)))))) (zNext))
    (zSeq (zIf (yV (xBin eqD (xIdx (xV 1) (xC (.int 0))) (xC (.str "both")))) (zSeq (zSet 3 (xCall 2 (cl "_law_looked") (xCons (xV 0) (xCons (xIdx (xV 1) (xC (.int 1))) (xNil)))))
    (zSeq (zSet 4 (xIfe (yV (xBin isnD (xIdx (xV 3) (xC (.int 1))) (xC .non))) (xCall 2 (cl "_law_looked") (xCons (xV 0) (xCons (xIdx (xV 1) (xC (.int 2))) (xNil)))) (xV 3)))
    (zSeq (zIf (yV (xBin isD (xIdx (xV 4) (xC (.int 1))) (xC .non))) (zRet (xV 4)) (zNext))
    (zRet (xTup (xCons (xTup (xCons (xC (.str "pair")) (xCons (xIdx (xV 3) (xC (.int 0))) (xCons (xIdx (xV 4) (xC (.int 0))) (xNil))))) (xCons (xBin addD (xIdx (xV 3) (xC (.int 1))) (xIdx (xV 4) (xC (.int 1)))) (xNil)))))))) (zNext))
    (zSeq (zIf (yV (xBin eqD (xIdx (xV 1) (xC (.int 0))) (xC (.str "call")))) (zSeq (zSet 5 (xGet2 (xV 0) (xIdx (xV 1) (xC (.int 1))) (xC (.str ""))))
    (zSeq (zIf (yOr (yNot (yV (xBi .isi (xCons (xV 5) (xCons (xC (.val (.ty "tuple"))) (xNil)))))) (yV (xBin neD (xIdx (xV 5) (xC (.int 0))) (xC (.str "fun"))))) (zRet (xTup (xCons (xIdx (xV 1) (xC (.int 1))) (xCons (xC .non) (xNil))))) (zNext))
    (zSeq (zSet 3 (xCall 2 (cl "_law_looked") (xCons (xV 0) (xCons (xIdx (xV 1) (xC (.int 2))) (xNil)))))
    (zSeq (zIf (yV (xBin isD (xIdx (xV 3) (xC (.int 1))) (xC .non))) (zRet (xV 3)) (zNext))
    (zRet (xTup (xCons (xIdx (xV 5) (xC (.int 2))) (xCons (xBin addD (xIdx (xV 3) (xC (.int 1))) (xLst (xCons (xTup (xCons (xIdx (xV 3) (xC (.int 0))) (xCons (xIdx (xV 5) (xC (.int 1))) (xNil)))) (xNil)))) (xNil))))))))) (zNext))
    (zSeq (zPar 6 7 (xCons (xIfe (yV (xBin eqD (xIdx (xV 1) (xC (.int 0))) (xC (.str "row")))) (xBi .list (xCons (xIdx (xV 1) (xC (.int 2))) (xNil))) (xLst (xCons (xIdx (xV 1) (xC (.int 2))) (xNil)))) (xCons (xLst (xNil)) (xNil))))
    (zSeq (zFor (iV (xV 6)) (gN 2) (zSeq (zSet 3 (xCall 2 (cl "_law_looked") (xCons (xV 0) (xCons (xV 2) (xNil)))))
    (zSeq (zIf (yV (xBin isD (xIdx (xV 3) (xC (.int 1))) (xC .non))) (zRet (xV 3)) (zNext))
    (zSet 7 (xBin addD (xBin addD (xV 7) (xIdx (xV 3) (xC (.int 1)))) (xLst (xCons (xTup (xCons (xIdx (xV 3) (xC (.int 0))) (xCons (xIdx (xV 1) (xC (.int 1))) (xNil)))) (xNil))))))))
    (zRet (xTup (xCons (xIfe (yV (xBin eqD (xIdx (xV 1) (xC (.int 0))) (xC (.str "row")))) (xTup (xCons (xC (.str "list")) (xCons (xIdx (xV 1) (xC (.int 1))) (xNil)))) (xIdx (xV 1) (xC (.int 1)))) (xCons (xV 7) (xNil)))))))))

inductive Tm where
  | nm (x : Str)
  | call (x : Str) (t : Tm)
  | both (a b : Tm)
  | row (k : Kd) (ts : List Tm)
  | as (k : Kd) (t : Tm)
namespace Tm
mutual
def enc : Tm → D
  | .nm x => .tup [.str "name", .str x]
  | .call x t => .tup [.str "call", .str x, enc t]
  | .both a b => .tup [.str "both", enc a, enc b]
  | .row k ts => .tup [.str "row", k.enc, .tup (encs ts)]
  | .as k t => .tup [.str "as", k.enc, enc t]
def encs : List Tm → List D
  | [] => []
  | t :: ts => enc t :: encs ts
end
mutual
def dep : Tm → Nat
  | .nm _ => 1
  | .call _ t => dep t + 1
  | .both a b => max (dep a) (dep b) + 1
  | .row _ ts => deps ts + 1
  | .as _ t => dep t + 1
def deps : List Tm → Nat
  | [] => 0
  | t :: ts => max (dep t) (deps ts)
end
mutual
/-- how many places -/
def cnt : Tm → Nat
  | .nm _ => 0
  | .call _ t => cnt t + 1
  | .both a b => cnt a + cnt b
  | .row _ ts => cnts ts
  | .as _ t => cnt t + 1
def cnts : List Tm → Nat
  | [] => 0
  | t :: ts => cnt t + 1 + cnts ts
end
def bindK (r : (Kd × List (Kd × Kd)) ⊕ Str) (f : Kd → List (Kd × Kd) → (Kd × List (Kd × Kd)) ⊕ Str) : (Kd × List (Kd × Kd)) ⊕ Str := match r with
  | .inl (k, ps) => f k ps
  | .inr x => .inr x
mutual
/-- its kind and its places, or the name that is lacking -/
def look (s : List (Str × Kd)) : Tm → (Kd × List (Kd × Kd)) ⊕ Str
  | .nm x => match s.lookup x with | some k => .inl (k, []) | none => .inr x
  | .call x t => match s.lookup x with
    | some (.fn k l) => match look s t with | .inl (m, ps) => .inl (l, ps ++ [(m, k)]) | .inr y => .inr y
    | _ => .inr x
  | .both a b => match look s a with
    | .inl (k, ps) => match look s b with | .inl (l, qs) => .inl (.pr k l, ps ++ qs) | .inr y => .inr y
    | .inr y => .inr y
  | .row k ts => match looks s k ts with | .inl ps => .inl (.ls k, ps) | .inr y => .inr y
  | .as k t => match look s t with | .inl (m, ps) => .inl (k, ps ++ [(m, k)]) | .inr y => .inr y
def looks (s : List (Str × Kd)) (k : Kd) : List Tm → List (Kd × Kd) ⊕ Str
  | [] => .inl []
  | t :: ts => match look s t with
    | .inl (m, ps) => match looks s k ts with | .inl qs => .inl (ps ++ [(m, k)] ++ qs) | .inr y => .inr y
    | .inr y => .inr y
end
mutual
theorem look_cnt (s : List (Str × Kd)) : ∀ (t : Tm) (k : Kd) (ps : List (Kd × Kd)), look s t = .inl (k, ps) → ps.length = t.cnt
  | .nm x, k, ps, e => by
    simp only [look] at e
    split at e
    · cases e; rfl
    · cases e
  | .call x t, k, ps, e => by
    simp only [look] at e
    split at e
    · split at e
      · rename_i e2
        have := look_cnt s t _ _ e2
        cases e
        simp [cnt, this]
      · cases e
    · cases e
  | .both a b, k, ps, e => by
    simp only [look] at e
    split at e
    · split at e
      · rename_i e1 _ _ _ e2
        have := look_cnt s a _ _ e1
        have := look_cnt s b _ _ e2
        cases e
        simp [cnt, *]
      · cases e
    · cases e
  | .row k' ts, k, ps, e => by
    simp only [look] at e
    split at e
    · rename_i e2
      have := looks_cnt s k' ts _ e2
      cases e
      simp [cnt, this]
    · cases e
  | .as k' t, k, ps, e => by
    simp only [look] at e
    split at e
    · rename_i e2
      have := look_cnt s t _ _ e2
      cases e
      simp [cnt, this]
    · cases e
theorem looks_cnt (s : List (Str × Kd)) (k : Kd) : ∀ (ts : List Tm) (ps : List (Kd × Kd)), looks s k ts = .inl ps → ps.length = cnts ts
  | [], ps, e => by simp only [looks] at e; cases e; rfl
  | t :: ts, ps, e => by
    simp only [looks] at e
    split at e
    · split at e
      · rename_i e1 _ _ e2
        have := look_cnt s t _ _ e1
        have := looks_cnt s k ts _ e2
        cases e
        simp only [List.length_append, List.length_cons, List.length_nil, cnts]
        omega
      · cases e
    · cases e
end
end Tm
open Tm
def sE (s : List (Str × Kd)) : List (Key × D) := s.map fun p => (.inr p.1, p.2.enc)
def pl (p : Kd × Kd) : D := .tup [p.1.enc, p.2.enc]
@[simp] theorem dfS {s : List (Str × Kd)} {x : Str} : dfind (sE s) (.inr x) = (s.lookup x).map Kd.enc := by
  unfold dfind sE
  induction s with
  | nil => rfl
  | cons p s ih =>
    obtain ⟨y, k⟩ := p
    by_cases c : y = x
    · subst c
      simp [List.lookup, List.find?_cons]
    · have c2 : (x == y) = false := by simpa using fun z => c z.symm
      have c3 : ¬ (Sum.inr y : Key) = .inr x := fun z => c (by injection z)
      simp only [List.map_cons, List.find?_cons, decide_eq_false c3, List.lookup, c2]
      exact ih
structure Pf (T : Tab) : Prop where
  lo : T "looked" = some ⟨3, 6, bLooked⟩
  kf : T "kind_of" = some ⟨2, 2, bKindOf⟩
  pf : T "places" = some ⟨2, 3, bPlaces⟩
section
variable {T : Tab} {h : Hh} {n : Nat} {s : List (Str × Kd)}
theorem idx_dctS {kds : List (Key × D)} {x : Str} : idxD (.dct kds) (.str x) h = match dfind kds (.inr x) with | some d => .ok d h | none => .bad := by
  cases e : dfind kds (.inr x) with
  | some d => exact idx_dct e
  | none => simp [idxD, asD, e]
def lpN (s : List (Str × Kd)) (k : Kd) (us ts : List Tm) (n : Nat) (acc : List D) (h : Hh) : Rho → Hh → Prop := fun ρ' h' => ∃ ps x3, looks s k us = .inl ps ∧ ρ' = [some (.dct (sE s)), some (.tup [.str "row", k.enc, .tup (encs ts)]), some (.ref n), x3, none, none] ∧ h' = h.set n (.lst (acc ++ ps.map pl))
def lpX (s : List (Str × Kd)) (k : Kd) (us : List Tm) (n : Nat) (h : Hh) : Xp := fun c ds h' => ∃ x acc', looks s k us = .inr x ∧ c = "NoName" ∧ ds = [.str x] ∧ h' = h.set n (.lst acc')
def lkQ (s : List (Str × Kd)) (t : Tm) (n : Nat) (acc : List D) (h : Hh) : D → Hh → Prop := fun d h' => ∃ k ps, look s t = .inl (k, ps) ∧ d = k.enc ∧ h' = h.set n (.lst (acc ++ ps.map pl))
def lkX (s : List (Str × Kd)) (t : Tm) (n : Nat) (h : Hh) : Xp := fun c ds h' => ∃ x acc', look s t = .inr x ∧ c = "NoName" ∧ ds = [.str x] ∧ h' = h.set n (.lst acc')
theorem set_get {o o' : O} (hn : h[n]? = some o) : (h.set n o')[n]? = some o' := List.getElem?_set_self (List.getElem?_eq_some_iff.mp hn).1
theorem looked_w (P : Pf T) : ∀ (m : Nat) (t : Tm) (lv : Nat) (h : Hh) (acc : List D), t.dep ≤ m → m ≤ lv → h[n]? = some (.lst acc) → acc.length + t.cnt ≤ 1000000 →
    wE (callN T lv "looked" [.dct (sE s), t.enc, .ref n] h) (lkQ s t n acc h) (lkX s t n h) := by
  intro m
  induction m with
  | zero => intro t lv h acc ht; cases t <;> simp [Tm.dep] at ht
  | succ m ih =>
    intro t lv h acc ht hm hn hc
    obtain ⟨lv, rfl⟩ : ∃ i, lv = i + 1 := ⟨lv - 1, by omega⟩
    refine call_w P.lo rfl ?_
    have hself : h.set n (.lst acc) = h := by
      obtain ⟨h1, h2⟩ := List.getElem?_eq_some_iff.mp hn
      rw [← h2, List.set_getElem_self]
    cases t with
    | nm x =>
      simp [bLooked, startR, Tm.enc, idx_dctS]
      cases e : s.lookup x with
      | none => simp; exact ⟨x, acc, by simp [look, e], rfl, rfl, hself.symm⟩
      | some k => simp; exact ⟨k, [], by simp [look, e], rfl, by simpa using hself.symm⟩
    | both a b =>
      simp only [Tm.dep, Tm.cnt] at ht hc
      simp [bLooked, startR, Tm.enc]
      refine wE_mono (ih a lv h acc (by omega) (by omega) hn (by omega)) ?_ ?_
      · rintro _ _ ⟨k, ps, e1, rfl, rfl⟩
        have lp := look_cnt s a _ _ e1
        simp
        refine wE_mono (ih b lv _ _ (by omega) (by omega) (set_get hn) (by simp only [List.length_append, List.length_map]; omega)) ?_ ?_
        · rintro _ _ ⟨l, qs, e2, rfl, rfl⟩
          simp
          rw [eC_len (by simp)]
          exact ⟨.pr k l, ps ++ qs, by simp only [look, e1, e2], rfl, by simp⟩
        · rintro _ _ _ ⟨x, acc', e2, rfl, rfl, rfl⟩
          rw [eX_len (by simp)]
          exact ⟨x, acc', by simp only [look, e1, e2], rfl, rfl, by simp⟩
      · rintro _ _ _ ⟨x, acc', e1, rfl, rfl, rfl⟩
        rw [eX_len (by simp)]
        exact ⟨x, acc', by simp only [look, e1], rfl, rfl, rfl⟩
    | call x t =>
      simp only [Tm.dep, Tm.cnt] at ht hc
      simp [bLooked, startR, Tm.enc]
      cases e : s.lookup x with
      | none => simp; exact ⟨x, acc, by simp [look, e], rfl, rfl, hself.symm⟩
      | some k =>
        cases k with
        | nm y =>
          simp [Kd.enc]
          exact ⟨x, acc, by simp [look, e], rfl, rfl, hself.symm⟩
        | ls y =>
          simp [Kd.enc]
          exact ⟨x, acc, by simp [look, e], rfl, rfl, hself.symm⟩
        | pr y z =>
          simp [Kd.enc]
          exact ⟨x, acc, by simp [look, e], rfl, rfl, hself.symm⟩
        | fn k l =>
          simp [Kd.enc, asL, hn]
          refine wE_mono (ih t lv h acc (by omega) (by omega) hn (by omega)) ?_ ?_
          · rintro _ _ ⟨m1, ps, e1, rfl, rfl⟩
            have lp := look_cnt s t _ _ e1
            simp [Kd.enc]
            rw [app_at (set_get hn) (by simp only [List.length_append, List.length_map]; omega)]
            simp [Kd.enc]
            rw [eC_len (by simp)]
            exact ⟨l, ps ++ [(m1, k)], by simp only [look, e, e1], rfl, by simp [pl]⟩
          · rintro _ _ _ ⟨y, acc', e1, rfl, rfl, rfl⟩
            rw [eX_len (by simp)]
            exact ⟨y, acc', by simp only [look, e, e1], rfl, rfl, rfl⟩
    | as k t =>
      simp only [Tm.dep, Tm.cnt] at ht hc
      simp [bLooked, startR, Tm.enc, asL, hn]
      refine wE_mono (ih t lv h acc (by omega) (by omega) hn (by omega)) ?_ ?_
      · rintro _ _ ⟨m1, ps, e1, rfl, rfl⟩
        have lp := look_cnt s t _ _ e1
        simp
        rw [app_at (set_get hn) (by simp only [List.length_append, List.length_map]; omega)]
        simp
        rw [eC_len (by simp)]
        exact ⟨k, ps ++ [(m1, k)], by simp only [look, e1], rfl, by simp [pl]⟩
      · rintro _ _ _ ⟨x, acc', e1, rfl, rfl, rfl⟩
        rw [eX_len (by simp)]
        exact ⟨x, acc', by simp only [look, e1], rfl, rfl, rfl⟩
    | row k ts =>
      simp only [Tm.dep, Tm.cnt] at ht hc
      simp [bLooked, startR, Tm.enc]
      have loop : ∀ (us : List Tm) (acc : List D) (h : Hh) (x3 : Option D), deps us ≤ m → h[n]? = some (.lst acc) → acc.length + cnts us ≤ 1000000 →
          wS (loopS (gN 3) (zExpr (xM mApp (xV 2) (xCons (xTup (xCons (xCall 3 (callN T lv "looked") (xCons (xV 0) (xCons (xV 3) (xCons (xV 2) xNil)))) (xCons (xIdx (xV 1) (xC (.int 1))) xNil))) xNil))) (encs us) [some (.dct (sE s)), some (.tup [.str "row", k.enc, .tup (encs ts)]), some (.ref n), x3, none, none] h)
            (lpN s k us ts n acc h) (fun _ _ => False) (lpX s k us n h) := by
        intro us
        induction us with
        | nil =>
          intro acc h x3 _ hn _
          have hself : h.set n (.lst acc) = h := by
            obtain ⟨h1, h2⟩ := List.getElem?_eq_some_iff.mp hn
            rw [← h2, List.set_getElem_self]
          exact .nx ⟨[], x3, rfl, rfl, by simp [hself]⟩
        | cons u us iu =>
          intro acc h x3 hd hn hc
          simp only [Tm.deps, Tm.cnts] at hd hc
          refine loop_w rfl ?_
          simp [asL, hn]
          refine wE_mono (ih u lv h acc (by omega) (by omega) hn (by omega)) ?_ ?_
          · rintro _ _ ⟨m1, ps, e1, rfl, rfl⟩
            have lp := look_cnt s u _ _ e1
            simp
            rw [app_at (set_get hn) (by simp only [List.length_append, List.length_map]; omega)]
            simp
            refine wS_mono (iu _ _ _ (by omega) (set_get hn) (by simp only [List.length_append, List.length_map, List.length_cons, List.length_nil]; omega)) ?_ (fun _ _ z => z) ?_
            · rintro _ _ ⟨qs, x3, e2, rfl, rfl⟩
              exact ⟨ps ++ [(m1, k)] ++ qs, x3, by simp [looks, e1, e2], rfl, by simp [pl]⟩
            · rintro _ _ _ ⟨x, acc', e2, rfl, rfl, rfl⟩
              exact ⟨x, acc', by simp [looks, e1, e2], rfl, rfl, by simp⟩
          · rintro _ _ _ ⟨x, acc', e1, rfl, rfl, rfl⟩
            exact ⟨x, acc', by simp [looks, e1], rfl, rfl, rfl⟩
      refine wS_mono (loop ts acc h none (by omega) hn (by omega)) ?_ (fun _ _ z => z.elim) ?_
      · rintro _ _ ⟨qs, x3, e2, rfl, rfl⟩
        simp
        rw [eC_len (by simp)]
        exact ⟨.ls k, qs, by simp only [look, e2], rfl, rfl⟩
      · rintro _ _ _ ⟨x, acc', e2, rfl, rfl, rfl⟩
        rw [eX_len (by simp)]
        exact ⟨x, acc', by simp only [look, e2], rfl, rfl, rfl⟩
theorem kind_of_w (P : Pf T) {t : Tm} {lv : Nat} (hd : t.dep + 1 ≤ lv) (hc : t.cnt ≤ 1000000) : wE (callN T lv "kind_of" [.dct (sE s), t.enc] h) (fun d h' => ∃ k ps, look s t = .inl (k, ps) ∧ d = k.enc ∧ h' = h) (fun c ds h' => ∃ x, look s t = .inr x ∧ c = "NoName" ∧ ds = [.str x] ∧ h' = h) := by
  obtain ⟨lv, rfl⟩ : ∃ i, lv = i + 1 := ⟨lv - 1, by omega⟩
  refine call_w P.kf rfl ?_
  simp [bKindOf, startR]
  refine wE_mono (looked_w P t.dep t lv _ [] (Nat.le_refl _) (by omega) (by simp) (by simpa using hc)) ?_ ?_
  · rintro _ _ ⟨k, ps, e, rfl, rfl⟩
    rw [set_last]
    simp
    rw [eC_cut (Kd.bel _ _)]
    first | exact ⟨k, ps, e, rfl, rfl⟩ | exact ⟨k, ⟨ps, e⟩, rfl, rfl⟩
  · rintro _ _ _ ⟨x, acc', e, rfl, rfl, rfl⟩
    rw [set_last, eX_cut (.cons (.str _) .nil)]
    exact ⟨x, e, rfl, rfl, rfl⟩
theorem pl_bel (ps : List (Kd × Kd)) (m : Nat) : Bels m (ps.map pl) := .of fun d hd => by
  obtain ⟨p, _, rfl⟩ := List.mem_map.mp hd
  exact .tup (.cons (Kd.bel _ _) (.cons (Kd.bel _ _) .nil))
theorem places_w (P : Pf T) {t : Tm} {lv : Nat} (hd : t.dep + 1 ≤ lv) (hc : t.cnt ≤ 1000000) : wE (callN T lv "places" [.dct (sE s), t.enc] h) (fun d h' => ∃ k ps, look s t = .inl (k, ps) ∧ d = .ref h.length ∧ h' = h ++ [.lst (ps.map pl)]) (fun c ds h' => ∃ x, look s t = .inr x ∧ c = "NoName" ∧ ds = [.str x] ∧ h' = h) := by
  obtain ⟨lv, rfl⟩ : ∃ i, lv = i + 1 := ⟨lv - 1, by omega⟩
  refine call_w P.pf rfl ?_
  simp [bPlaces, startR]
  refine wE_mono (looked_w P t.dep t lv _ [] (Nat.le_refl _) (by omega) (by simp) (by simpa using hc)) ?_ ?_
  · rintro _ _ ⟨k, ps, e, rfl, rfl⟩
    rw [set_last, List.nil_append]
    simp
    rw [eC_new (o := .lst _) (show Bels _ _ from pl_bel _ _)]
    first | exact ⟨k, ps, e, rfl, rfl⟩ | exact ⟨⟨k, ps, e, rfl⟩, rfl⟩ | exact ⟨k, ps, e, rfl⟩
  · rintro _ _ _ ⟨x, acc', e, rfl, rfl, rfl⟩
    rw [set_last, eX_cut (.cons (.str _) .nil)]
    exact ⟨x, e, rfl, rfl, rfl⟩
def lkD : (Kd × List (Kd × Kd)) ⊕ Str → D
  | .inl (k, ps) => .tup [k.enc, .lst (ps.map pl)]
  | .inr x => .tup [.str x, .non]
def llS (s : List (Str × Kd)) (k : Kd) (ts : List Tm) (acc : List D) (x2 x3 : Option D) : Rho := [some (.dct (sE s)), some (.tup [.str "row", k.enc, .tup (encs ts)]), x2, x3, none, none, some (.lst (encs ts)), some (.lst acc)]
def lpL (s : List (Str × Kd)) (k : Kd) (us ts : List Tm) (h : Hh) (acc : List D) : Rho → Hh → Prop := fun ρ' h' => ∃ ps x y, looks s k us = .inl ps ∧ ρ' = llS s k ts (acc ++ ps.map pl) x y ∧ h' = h
def lpR (s : List (Str × Kd)) (k : Kd) (us : List Tm) (h : Hh) : D → Hh → Prop := fun d h' => ∃ x, looks s k us = .inr x ∧ d = .tup [.str x, .non] ∧ h' = h
theorem llooked_ok (hL : T "_law_looked" = some ⟨2, 8, bLLooked⟩) : ∀ (m : Nat) (t : Tm) (lv : Nat), t.dep ≤ m → m ≤ lv → t.cnt ≤ 1000000 → callN T lv "_law_looked" [.dct (sE s), t.enc] h = .ok (lkD (look s t)) h := by
  intro m
  induction m with
  | zero => intro t lv ht; cases t <;> simp [Tm.dep] at ht
  | succ m ih =>
    intro t lv ht hm hc
    obtain ⟨lv, rfl⟩ : ∃ i, lv = i + 1 := ⟨lv - 1, by omega⟩
    refine wE_is (call_w hL rfl ?_)
    cases t with
    | nm x =>
      simp [bLLooked, startR, Tm.enc, look, idx_dctS]
      cases e : s.lookup x with
      | none => simp [lkD, look, e]
      | some k => simp [lkD, look, e]
    | both a b =>
      simp only [Tm.dep, Tm.cnt] at ht hc
      have ea := ih a lv (by omega) (by omega) (by omega)
      have eb := ih b lv (by omega) (by omega) (by omega)
      simp [bLLooked, startR, Tm.enc, look, ea]
      cases la : look s a with
      | inr x => simp [lkD, isnD, isD, look, la]
      | inl p =>
        obtain ⟨k, ps⟩ := p
        have lp := look_cnt s a _ _ la
        simp [lkD, isnD, isD, eb]
        cases lb : look s b with
        | inr x => simp [lkD, isnD, isD, look, la, lb]
        | inl p =>
          obtain ⟨l, qs⟩ := p
          have lq := look_cnt s b _ _ lb
          simp [lkD, isnD, isD, Kd.enc, look, la, lb]
          omega
    | call x t =>
      simp only [Tm.dep, Tm.cnt] at ht hc
      have et := ih t lv (by omega) (by omega) (by omega)
      simp [bLLooked, startR, Tm.enc, look]
      cases e : s.lookup x with
      | none => simp [lkD, look, e]
      | some k =>
        cases k with
        | nm y => simp [Kd.enc, lkD, look, e]
        | ls y => simp [Kd.enc, lkD, look, e]
        | pr y z => simp [Kd.enc, lkD, look, e]
        | fn k l =>
          simp [Kd.enc, et]
          cases la : look s t with
          | inr x => simp [lkD, isnD, isD, look, e, la]
          | inl p =>
            obtain ⟨k, ps⟩ := p
            have lp := look_cnt s t _ _ la
            simp [lkD, isnD, isD, pl, look, e, la, Kd.enc]
            omega
    | as k t =>
      simp only [Tm.dep, Tm.cnt] at ht hc
      have et := ih t lv (by omega) (by omega) (by omega)
      simp [bLLooked, startR, Tm.enc, look]
      refine loop_w rfl ?_
      simp [et]
      cases la : look s t with
      | inr x => simp [lkD, isnD, isD, look, la]
      | inl p =>
        obtain ⟨k, ps⟩ := p
        have lp := look_cnt s t _ _ la
        simp [lkD, isnD, isD, pl, loopS, look, la]
        omega
    | row k ts =>
      simp only [Tm.dep, Tm.cnt] at ht hc
      simp [bLLooked, startR, Tm.enc, look]
      have loop : ∀ (us : List Tm) (acc : List D) (x2 x3 : Option D) (X : Xp), deps us ≤ m → acc.length + cnts us ≤ 1000000 →
          wS (loopS (gN 2) (zSeq (zSet 3 (xCall 2 (callN T lv "_law_looked") (xCons (xV 0) (xCons (xV 2) xNil)))) (zSeq (zIf (yV (xBin isD (xIdx (xV 3) (xC (D.int 1))) (xC D.non))) (zRet (xV 3)) zNext) (zSet 7 (xBin addD (xBin addD (xV 7) (xIdx (xV 3) (xC (D.int 1)))) (xLst (xCons (xTup (xCons (xIdx (xV 3) (xC (D.int 0))) (xCons (xIdx (xV 1) (xC (D.int 1))) xNil))) xNil))))))
            (encs us) (llS s k ts acc x2 x3) h) (lpL s k us ts h acc) (lpR s k us h) X := by
        intro us
        induction us with
        | nil =>
          intro acc x2 x3 X _ _
          exact .nx ⟨[], x2, x3, rfl, by simp, rfl⟩
        | cons u us iu =>
          intro acc x2 x3 X hd hc
          simp only [Tm.deps, Tm.cnts] at hd hc
          have eu := ih u lv (by omega) (by omega) (by omega)
          refine loop_w rfl ?_
          simp [llS, eu]
          cases la : look s u with
          | inr x =>
            simp [llS, lkD, isnD, isD]
            exact ⟨x, by simp [looks, la], rfl, rfl⟩
          | inl p =>
            obtain ⟨k1, ps⟩ := p
            have lp := look_cnt s u _ _ la
            simp [llS, lkD, isnD, isD]
            refine ⟨by omega, ?_⟩
            try simp
            refine ⟨by omega, ?_⟩
            refine wS_mono (iu (acc ++ (ps.map pl ++ [pl (k1, k)])) (some u.enc) (some (lkD (.inl (k1, ps)))) X (by omega) (by simp only [List.length_append, List.length_map, List.length_cons, List.length_nil]; omega)) ?_ ?_ (fun _ _ _ z => z)
            · rintro _ _ ⟨qs, y2, y3, e2, rfl, rfl⟩
              exact ⟨ps ++ [(k1, k)] ++ qs, y2, y3, by simp [looks, la, e2], by simp, rfl⟩
            · rintro _ _ ⟨x, e2, rfl, rfl⟩
              exact ⟨x, by simp [looks, la, e2], rfl, rfl⟩
      refine wS_mono (loop ts [] none none _ (by omega) (by simpa using hc)) ?_ ?_ (fun _ _ _ z => z)
      · rintro _ _ ⟨qs, y2, y3, e2, rfl, rfl⟩
        simp [llS, e2, lkD, Kd.enc, look]
      · rintro _ _ ⟨x, e2, rfl, rfl⟩
        simp [e2, lkD, look]
end
end Bx
namespace Bx
open PySem PySem.Spec PyProof.Rows L2
mutual
/-- how many things, lists as one -/
def nc : D → Nat
  | .tup ds => 1 + ncs ds
  | _ => 1
def ncs : List D → Nat
  | [] => 0
  | d :: ds => nc d + ncs ds
end
mutual
/-- no tuple is longer -/
def tl (L : Nat) : D → Bool
  | .tup ds => decide (ds.length ≤ L) && tls L ds
  | _ => true
def tls (L : Nat) : List D → Bool
  | [] => true
  | d :: ds => tl L d && tls L ds
end
theorem nmB_ss {d : D} (h : nmB d = true) : ∃ x, d = .str x ∧ SS 8 x ∧ 0 < x.length := by
  cases d with
  | str x =>
    simp only [nmB, lets, Bool.and_eq_true, decide_eq_true_eq, List.all_eq_true] at h
    refine ⟨x, rfl, ⟨h.2.1, fun c hc => ?_⟩, h.1⟩
    have := h.2.2 c hc
    have e : ABC.cps.toList = [97, 98, 99, 100, 101, 102, 103, 104, 105, 106, 107, 108, 109, 110, 111, 112, 113, 114, 115, 116, 117, 118, 119, 120, 121, 122] := by decide +kernel
    rw [e] at this
    simp only [List.mem_cons, List.mem_nil_iff, or_false] at this
    omega
  | _ => simp [nmB] at h
theorem len2 {α : Type} {l : List α} (h : l.length = 2) : ∃ a b, l = [a, b] := by
  rcases l with _ | ⟨a, _ | ⟨b, _ | ⟨c, r⟩⟩⟩ <;> simp at h ⊢
theorem kd_of : ∀ (k : Nat) (d : D), kdB k W3 d = true → ∃ a : Kd, a.enc = d ∧ a.good ∧ a.depth ≤ k ∧ a.size ≤ nc d := by
  intro k
  induction k with
  | zero =>
    intro d h
    have : nmB d = true := by cases d <;> exact h
    obtain ⟨x, rfl, hx⟩ := nmB_ss this
    exact ⟨.nm x, rfl, hx, by simp [Kd.depth], by simp [Kd.size, nc]⟩
  | succ k ih =>
    intro d h
    by_cases ht : ∃ ds, d = .tup ds
    · obtain ⟨ds, rfl⟩ := ht
      rcases ds with _ | ⟨a, r⟩
      · simp [kdB] at h
      · cases a with
        | str w =>
          simp only [kdB, Bool.and_eq_true, decide_eq_true_eq, List.all_eq_true] at h
          obtain ⟨h1, h2, h3⟩ := h
          simp only [List.mem_cons, List.mem_nil_iff, or_false] at h1
          rcases h1 with rfl | rfl | rfl
          · obtain ⟨b, rfl⟩ := List.length_eq_one_iff.mp (show r.length = 1 by rw [h2]; rfl)
            obtain ⟨b', rfl, g, dp, s⟩ := ih b (h3 b (by simp))
            exact ⟨.ls b', rfl, g, by simp only [Kd.depth]; omega, by simp only [Kd.size, nc, ncs]; omega⟩
          · obtain ⟨b, c, rfl⟩ := len2 (show r.length = 2 by rw [h2]; rfl)
            obtain ⟨b', rfl, g, dp, s⟩ := ih b (h3 b (by simp))
            obtain ⟨c', rfl, g2, dp2, s2⟩ := ih c (h3 c (by simp))
            exact ⟨.pr b' c', rfl, ⟨g, g2⟩, by simp only [Kd.depth]; omega, by simp only [Kd.size, nc, ncs]; omega⟩
          · obtain ⟨b, c, rfl⟩ := len2 (show r.length = 2 by rw [h2]; rfl)
            obtain ⟨b', rfl, g, dp, s⟩ := ih b (h3 b (by simp))
            obtain ⟨c', rfl, g2, dp2, s2⟩ := ih c (h3 c (by simp))
            exact ⟨.fn b' c', rfl, ⟨g, g2⟩, by simp only [Kd.depth]; omega, by simp only [Kd.size, nc, ncs]; omega⟩
        | _ => simp [kdB] at h
    · have : nmB d = true := by rw [kdB_at (fun ds e => ht ⟨ds, e⟩)] at h; exact h
      obtain ⟨x, rfl, hx⟩ := nmB_ss this
      exact ⟨.nm x, rfl, hx, by simp [Kd.depth], by simp [Kd.size, nc]⟩
namespace Tm
mutual
def num : Tm → Nat
  | .nm _ => 3
  | .call _ t => 3 + num t
  | .both a b => 2 + num a + num b
  | .row k ts => 3 + k.size + nums ts
  | .as k t => 2 + k.size + num t
def nums : List Tm → Nat
  | [] => 0
  | t :: ts => num t + nums ts
end
mutual
/-- its names and kinds are good, kinds of at most this depth, rows of at most this length -/
def Good (M L : Nat) : Tm → Prop
  | .nm x => SS 8 x ∧ 0 < x.length
  | .call x t => (SS 8 x ∧ 0 < x.length) ∧ Good M L t
  | .both a b => Good M L a ∧ Good M L b
  | .row k ts => k.good ∧ k.depth ≤ M ∧ ts.length ≤ L ∧ Goods M L ts
  | .as k t => k.good ∧ k.depth ≤ M ∧ Good M L t
def Goods (M L : Nat) : List Tm → Prop
  | [] => True
  | t :: ts => Good M L t ∧ Goods M L ts
end
theorem cnt_num : ∀ t : Tm, t.cnt + 1 ≤ t.num := by
  intro t
  induction t using Tm.rec (motive_2 := fun ts => cnts ts ≤ nums ts) with
  | nm x => simp [cnt, num]
  | call x t ih => simp only [cnt, num]; omega
  | both a b ih1 ih2 => simp only [cnt, num]; omega
  | row k ts ih => simp only [cnt, num]; omega
  | as k t ih => simp only [cnt, num]; omega
  | nil => simp [cnts]
  | cons t ts ih1 ih2 => simp only [cnts, nums]; omega
theorem all_of {p : D → Bool} {q : Tm → Prop} {L : Nat} : ∀ (ds : List D), ds.all p = true → tls L ds = true → (∀ d ∈ ds, p d = true → tl L d = true → ∃ t : Tm, t.enc = d ∧ q t ∧ t.num ≤ nc d) → ∃ ts, encs ts = ds ∧ (∀ t ∈ ts, q t) ∧ nums ts ≤ ncs ds ∧ ts.length = ds.length
  | [], _, _, _ => ⟨[], rfl, by simp, by simp [nums], rfl⟩
  | d :: ds, h, h2, f => by
    simp only [List.all_cons, Bool.and_eq_true, tls] at h h2
    obtain ⟨t, rfl, q1, n1⟩ := f d (List.mem_cons_self ..) h.1 h2.1
    obtain ⟨ts, rfl, q2, n2, l2⟩ := all_of ds h.2 h2.2 fun d hd => f d (List.mem_cons_of_mem _ hd)
    refine ⟨t :: ts, rfl, fun u hu => ?_, by simp only [nums, ncs]; omega, by simp [l2]⟩
    rcases List.mem_cons.mp hu with rfl | hu
    · exact q1
    · exact q2 u hu
theorem deps_of {m : Nat} : ∀ {ts : List Tm}, (∀ t ∈ ts, t.dep ≤ m) → deps ts ≤ m
  | [], _ => Nat.zero_le _
  | t :: ts, h => Nat.max_le.mpr ⟨h t (List.mem_cons_self ..), deps_of fun u hu => h u (List.mem_cons_of_mem _ hu)⟩
theorem goods_of {M L : Nat} : ∀ {ts : List Tm}, (∀ t ∈ ts, t.Good M L) → Goods M L ts
  | [], _ => trivial
  | t :: ts, h => ⟨h t (List.mem_cons_self ..), goods_of fun u hu => h u (List.mem_cons_of_mem _ hu)⟩
theorem tm_of {M L : Nat} : ∀ (k : Nat) (d : D), k ≤ M → tmB k d = true → tl L d = true → ∃ t : Tm, t.enc = d ∧ (t.dep ≤ k ∧ t.Good M L) ∧ t.num ≤ nc d := by
  intro k
  induction k with
  | zero => intro d _ h; cases d <;> simp [tmB] at h
  | succ k ih =>
    intro d hM h ht
    cases d with
    | tup ds =>
      rcases ds with _ | ⟨a, _ | ⟨b, _ | ⟨c, _ | ⟨e, r⟩⟩⟩⟩
      · simp [tmB] at h
      · rw [tmB_short] at h; cases h
      · cases a with
        | str w =>
          simp only [tmB, Bool.and_eq_true, decide_eq_true_eq] at h
          obtain ⟨rfl, h⟩ := h
          obtain ⟨x, rfl, hx⟩ := nmB_ss h
          exact ⟨.nm x, rfl, ⟨by simp [dep], hx⟩, by simp [num, nc, ncs]⟩
        | _ => rw [tmB_head (by simp)] at h; cases h
      · cases a with
        | str w =>
          simp only [tl, tls, Bool.and_eq_true] at ht
          obtain ⟨_, _, tb, tc, _⟩ := ht
          simp only [tmB] at h
          by_cases h1 : w = "call"
          · subst h1
            simp only [if_true, Bool.and_eq_true] at h
            obtain ⟨x, rfl, hx⟩ := nmB_ss h.1
            obtain ⟨t, rfl, ⟨t1, t2⟩, t3⟩ := ih c (by omega) h.2 tc
            exact ⟨.call x t, rfl, ⟨by simp only [dep]; omega, hx, t2⟩, by simp only [num, nc, ncs]; omega⟩
          rw [if_neg h1] at h
          by_cases h2 : w = "both"
          · subst h2
            simp only [if_true, Bool.and_eq_true] at h
            obtain ⟨u, rfl, ⟨u1, u2⟩, u3⟩ := ih b (by omega) h.1 tb
            obtain ⟨t, rfl, ⟨t1, t2⟩, t3⟩ := ih c (by omega) h.2 tc
            exact ⟨.both u t, rfl, ⟨by simp only [dep]; omega, u2, t2⟩, by simp only [num, nc, ncs]; omega⟩
          rw [if_neg h2] at h
          by_cases h3 : w = "as"
          · subst h3
            simp only [if_true, Bool.and_eq_true] at h
            obtain ⟨u, rfl, u1, u2, u3⟩ := kd_of k b h.1
            obtain ⟨t, rfl, ⟨t1, t2⟩, t3⟩ := ih c (by omega) h.2 tc
            exact ⟨.as u t, rfl, ⟨by simp only [dep]; omega, u1, by omega, t2⟩, by simp only [num, nc, ncs]; omega⟩
          rw [if_neg h3] at h
          by_cases h4 : w = "row"
          · subst h4
            simp only [if_true, Bool.and_eq_true] at h
            obtain ⟨u, rfl, u1, u2, u3⟩ := kd_of k b h.1
            cases c with
            | tup ds =>
              simp only [tl, Bool.and_eq_true, decide_eq_true_eq] at tc
              obtain ⟨ts, rfl, q1, q2, q3⟩ := all_of (q := fun t => t.dep ≤ k ∧ t.Good M L) ds h.2 tc.2 fun d hd h1 h2 => ih d (by omega) h1 h2
              exact ⟨.row u ts, rfl, ⟨by simp only [dep]; have := deps_of (m := k) fun t ht => (q1 t ht).1; omega, u1, by omega, by omega, goods_of fun t ht => (q1 t ht).2⟩, by simp only [num, nc, ncs]; omega⟩
            | _ => simp [rowB] at h
          rw [if_neg h4] at h
          cases h
        | _ => rw [tmB_head (by simp)] at h; cases h
      · rw [tmB_long] at h; cases h
    | _ => simp [tmB] at h
end Tm
open Tm
/-- what is told, in sizes -/
def psz (ps : List (Kd × Kd)) : Nat := (ps.map fun p => p.1.size + p.2.size).sum
def pok (D : Nat) (ps : List (Kd × Kd)) : Prop := ∀ p ∈ ps, (p.1.good ∧ p.1.depth ≤ D) ∧ (p.2.good ∧ p.2.depth ≤ D)
structure Sg (M : Nat) (s : List (Str × Kd)) : Prop where
  ok : ∀ x k, s.lookup x = some k → k.good ∧ k.size ≤ 5 ∧ k.depth ≤ M
theorem psz_app (ps qs : List (Kd × Kd)) : psz (ps ++ qs) = psz ps + psz qs := by simp [psz]
theorem psz_one (a b : Kd) : psz [(a, b)] = a.size + b.size := by simp [psz]
theorem pok_app {D : Nat} {ps qs : List (Kd × Kd)} (h1 : pok D ps) (h2 : pok D qs) : pok D (ps ++ qs) := fun p hp => (List.mem_append.mp hp).elim (h1 p) (h2 p)
theorem pok_mono {D E : Nat} {ps : List (Kd × Kd)} (h1 : pok D ps) (h : D ≤ E) : pok E ps := fun p hp => ⟨⟨(h1 p hp).1.1, Nat.le_trans (h1 p hp).1.2 h⟩, (h1 p hp).2.1, Nat.le_trans (h1 p hp).2.2 h⟩
theorem pok_one {D : Nat} {a b : Kd} (h1 : a.good ∧ a.depth ≤ D) (h2 : b.good ∧ b.depth ≤ D) : pok D [(a, b)] := fun p hp => by
  simp only [List.mem_singleton] at hp
  subst hp
  exact ⟨h1, h2⟩
mutual
theorem look_sz {M L : Nat} {s : List (Str × Kd)} (S : Sg M s) (hL : L ≤ 8) : ∀ (t : Tm) (k : Kd) (ps : List (Kd × Kd)), t.Good M L → look s t = .inl (k, ps) → k.size + psz ps ≤ 9 * t.num ∧ k.good ∧ k.depth ≤ M + t.dep ∧ pok (M + t.dep) ps
  | .nm x, k, ps, g, e => by
    simp only [look] at e
    split at e
    · rename_i e2
      cases e
      obtain ⟨h1, h2, h3⟩ := S.ok _ _ e2
      exact ⟨by simp [psz, num]; omega, h1, by omega, fun p hp => by simp at hp⟩
    · cases e
  | .call x t, k, ps, g, e => by
    simp only [look] at e
    split at e
    · rename_i a b e1
      split at e
      · rename_i m qs e2
        obtain ⟨i1, i2, i3, i4⟩ := look_sz S hL t _ _ g.2 e2
        cases e
        obtain ⟨h1, h2, h3⟩ := S.ok _ _ e1
        simp only [Kd.size, Kd.depth] at h2 h3
        refine ⟨by simp only [psz_app, psz_one, num]; omega, h1.2, by omega, pok_app (pok_mono i4 (by simp only [Tm.dep]; omega)) (pok_one ⟨i2, by simp only [Tm.dep]; omega⟩ ⟨h1.1, by omega⟩)⟩
      · cases e
    · cases e
  | .both a b, k, ps, g, e => by
    simp only [look] at e
    split at e
    · rename_i e1
      split at e
      · rename_i e2
        obtain ⟨i1, i2, i3, i4⟩ := look_sz S hL a _ _ g.1 e1
        obtain ⟨j1, j2, j3, j4⟩ := look_sz S hL b _ _ g.2 e2
        cases e
        exact ⟨by simp only [psz_app, Kd.size, num]; omega, ⟨i2, j2⟩, by simp only [Kd.depth, Tm.dep]; omega, pok_app (pok_mono i4 (by simp only [Tm.dep]; omega)) (pok_mono j4 (by simp only [Tm.dep]; omega))⟩
      · cases e
    · cases e
  | .row k' ts, k, ps, g, e => by
    simp only [look] at e
    split at e
    · rename_i e2
      obtain ⟨g1, g2, g3, g4⟩ := g
      obtain ⟨i1, i4⟩ := looks_sz S hL k' g1 g2 ts _ g4 e2
      cases e
      refine ⟨?_, g1, by simp only [Kd.depth, Tm.dep]; omega, pok_mono i4 (by simp only [Tm.dep]; omega)⟩
      simp only [Kd.size, num]
      have : ts.length * k'.size ≤ 8 * k'.size := Nat.mul_le_mul_right _ (by omega)
      omega
    · cases e
  | .as k' t, k, ps, g, e => by
    simp only [look] at e
    split at e
    · rename_i e2
      obtain ⟨g1, g2, g3⟩ := g
      obtain ⟨i1, i2, i3, i4⟩ := look_sz S hL t _ _ g3 e2
      cases e
      exact ⟨by simp only [psz_app, psz_one, num]; omega, g1, by omega, pok_app (pok_mono i4 (by simp only [Tm.dep]; omega)) (pok_one ⟨i2, by simp only [Tm.dep]; omega⟩ ⟨g1, by omega⟩)⟩
    · cases e
theorem looks_sz {M L : Nat} {s : List (Str × Kd)} (S : Sg M s) (hL : L ≤ 8) (k : Kd) (gk : k.good) (hk : k.depth ≤ M) : ∀ (ts : List Tm) (ps : List (Kd × Kd)), Goods M L ts → looks s k ts = .inl ps → psz ps ≤ 9 * nums ts + ts.length * k.size ∧ pok (M + deps ts) ps
  | [], ps, _, e => by
    simp only [looks] at e
    cases e
    exact ⟨by simp [psz], fun p hp => by simp at hp⟩
  | t :: ts, ps, g, e => by
    simp only [looks] at e
    split at e
    · rename_i e1
      split at e
      · rename_i e2
        obtain ⟨i1, i2, i3, i4⟩ := look_sz S hL t _ _ g.1 e1
        obtain ⟨j1, j4⟩ := looks_sz S hL k gk hk ts _ g.2 e2
        cases e
        refine ⟨?_, pok_app (pok_app (pok_mono i4 (by simp only [Tm.deps]; omega)) (pok_one ⟨i2, by simp only [Tm.deps]; omega⟩ ⟨gk, by omega⟩)) (pok_mono j4 (by simp only [Tm.deps]; omega))⟩
        simp only [psz_app, psz_one, nums, List.length_cons, Nat.add_mul]
        omega
      · cases e
    · cases e
end
mutual
theorem look_no {M L : Nat} {s : List (Str × Kd)} : ∀ (t : Tm) (x : Str), t.Good M L → look s t = .inr x → SS 8 x
  | .nm y, x, g, e => by
    simp only [look] at e
    split at e
    · cases e
    · cases e; exact g.1
  | .call y t, x, g, e => by
    simp only [look] at e
    split at e
    · split at e
      · cases e
      · rename_i e2
        cases e
        exact look_no t _ g.2 e2
    · cases e; exact g.1.1
  | .both a b, x, g, e => by
    simp only [look] at e
    split at e
    · split at e
      · cases e
      · rename_i e2
        cases e
        exact look_no b _ g.2 e2
    · rename_i e1
      cases e
      exact look_no a _ g.1 e1
  | .row k ts, x, g, e => by
    simp only [look] at e
    split at e
    · cases e
    · rename_i e1
      cases e
      exact looks_no k ts _ g.2.2.2 e1
  | .as k t, x, g, e => by
    simp only [look] at e
    split at e
    · cases e
    · rename_i e1
      cases e
      exact look_no t _ g.2.2 e1
theorem looks_no {M L : Nat} {s : List (Str × Kd)} (k : Kd) : ∀ (ts : List Tm) (x : Str), Goods M L ts → looks s k ts = .inr x → SS 8 x
  | [], x, g, e => by simp only [looks] at e; cases e
  | t :: ts, x, g, e => by
    simp only [looks] at e
    split at e
    · split at e
      · cases e
      · rename_i e2
        cases e
        exact looks_no k ts _ g.2 e2
    · rename_i e1
      cases e
      exact look_no t _ g.1 e1
end
end Bx
namespace Bx
open PySem PySem.Spec PyProof.Rows L2
noncomputable def bOdd (cl : Str → List D → Hh → Res D) : Fs :=
  zSeq (zSet 1 (xLst (xNil)))
    (zSeq (zFor (iR1 (xCons (xC (.int 26)) (xNil))) (gN 2) (zSet 1 (xLst (xCons (xV 1) (xNil)))))
    (zSeq (zSet 3 (xLst (xCons (xC .non) (xCons (xC (.bl true)) (xCons (xC (.int 0)) (xCons (xUn negD (xC (.int 1))) (xCons (xBin powD (xC (.int 10)) (xC (.int 39))) (xCons (xC (.str "")) (xCons (xC (.str "A")) (xCons (xC (.str "ninesigns")) (xCons (xC (.str "a b")) (xCons (xTup (xNil)) (xCons (xDct0) (xCons (xDct1 "a" "b") (xCons (xTup (xCons (xC (.str "a")) (xNil))) (xCons (xLst (xCons (xC (.str "a")) (xNil))) (xCons (xV 1) (xNil))))))))))))))))))
    (zRet (xIdx (xBin addD (xV 3) (xLst (xCons (xTup (xCons (xC (.str "same")) (xCons (xC (.str "a")) (xNil)))) (xCons (xTup (xCons (xC (.str "list")) (xCons (xC (.str "a")) (xNil)))) (xCons (xBin mulD (xLst (xCons (xC (.int 0)) (xNil))) (xC (.int 4900))) (xNil)))))) (xCall 2 (cl "_law_take") (xCons (xV 0) (xCons (xC (.int 18)) (xNil))))))))
noncomputable def bBent (cl : Str → List D → Hh → Res D) : Fs :=
  zSeq (zIf (yOr (yNot (yV (xBi .isi (xCons (xV 1) (xCons (xC (.val (.ty "tuple"))) (xNil)))))) (yOr (yV (xBin eq0D (xV 1) (xTup (xNil)))) (yV (xBin eqD (xCall 2 (cl "_law_take") (xCons (xV 0) (xCons (xC (.int 4)) (xNil)))) (xC (.int 0)))))) (zRet (xIdx (xLst (xCons (xCall 1 (cl "_law_odd_value") (xCons (xV 0) (xNil))) (xCons (xC (.str "y")) (xCons (xC (.str "Row")) (xCons (xTup (xCons (xC (.str "name")) (xCons (xC (.str "y")) (xNil)))) (xCons (xTup (xCons (xC (.str "call")) (xCons (xC (.str "x")) (xCons (xTup (xCons (xC (.str "name")) (xCons (xC (.str "x")) (xNil)))) (xNil))))) (xNil))))))) (xCall 2 (cl "_law_take") (xCons (xV 0) (xCons (xC (.int 5)) (xNil)))))) (zNext))
    (zSeq (zPar 2 3 (xCons (xCall 2 (cl "_law_take") (xCons (xV 0) (xCons (xBi .len (xCons (xV 1) (xNil))) (xNil)))) (xCons (xCall 2 (cl "_law_take") (xCons (xV 0) (xCons (xC (.int 8)) (xNil)))) (xNil))))
    (zSeq (zIf (yV (xBin eqD (xV 3) (xC (.int 0)))) (zRet (xBin addD (xV 1) (xTup (xCons (xIdx (xV 1) (xV 2)) (xNil))))) (zNext))
    (zSeq (zIf (yV (xBin eqD (xV 3) (xC (.int 1)))) (zRet (xBin addD (xSlc (xV 1) (xNo) (xSome (xV 2))) (xSlc (xV 1) (xSome (xBin addD (xV 2) (xC (.int 1)))) (xNo)))) (zNext))
    (zSeq (zIf (yV (xBin eqD (xV 3) (xC (.int 2)))) (zRet (xBi .list (xCons (xV 1) (xNil)))) (zNext))
    (zRet (xBin addD (xBin addD (xSlc (xV 1) (xNo) (xSome (xV 2))) (xTup (xCons (xCall 2 (cl "_law_bent") (xCons (xV 0) (xCons (xIdx (xV 1) (xV 2)) (xNil)))) (xNil)))) (xSlc (xV 1) (xSome (xBin addD (xV 2) (xC (.int 1)))) (xNo))))))))

/-- a thing: how deep, how long, how much -/
structure Th (t L N m w : Nat) (d : D) : Prop where
  tr : trk t d = true
  tl : tl L d = true
  nc : nc d ≤ N
  da : Da 45 m w d
structure Ths (t L N m w : Nat) (ds : List D) : Prop where
  tr : ∀ d ∈ ds, trk t d = true
  tl : ∀ d ∈ ds, tl L d = true
  nc : ncs ds ≤ N
  da : Das 45 m w ds
section
variable {t t' L L' N N' m m' w w' : Nat} {d : D} {ds es : List D}
mutual
theorem tl_mono0 (hl : L ≤ L') : ∀ d : D, Bx.tl L d = true → Bx.tl L' d = true
  | .tup ds, h => by
    simp only [Bx.tl, Bool.and_eq_true, decide_eq_true_eq] at h ⊢
    exact ⟨by omega, tls_mono0 hl ds h.2⟩
  | .non, _ => rfl
  | .bl _, _ => rfl
  | .int _, _ => rfl
  | .str _, _ => rfl
  | .lst _, _ => rfl
  | .dct _, _ => rfl
  | .obj _ _, _ => rfl
  | .exn _ _, _ => rfl
  | .cau _ _ _ _, _ => rfl
  | .ref _, _ => rfl
  | .scr _, _ => rfl
  | .val _, _ => rfl
theorem tls_mono0 (hl : L ≤ L') : ∀ ds : List D, Bx.tls L ds = true → Bx.tls L' ds = true
  | [], _ => rfl
  | a :: l, h => by
    simp only [Bx.tls, Bool.and_eq_true] at h ⊢
    exact ⟨tl_mono0 hl a h.1, tls_mono0 hl l h.2⟩
end
theorem tl_mono (hl : L ≤ L') (h : Bx.tl L d = true) : Bx.tl L' d = true := tl_mono0 hl d h
theorem tls_iff : ∀ {ds : List D}, Bx.tls L ds = true ↔ ∀ d ∈ ds, Bx.tl L d = true
  | [] => by simp [Bx.tls]
  | d :: ds => by simp [Bx.tls, tls_iff (ds := ds)]
theorem ncs_app : ∀ (ds es : List D), ncs (ds ++ es) = ncs ds + ncs es
  | [], es => by simp [ncs]
  | d :: ds, es => by simp [ncs, ncs_app ds es]; omega
theorem nc_pos (d : D) : 1 ≤ Bx.nc d := by cases d <;> simp [Bx.nc]
theorem Th.mono (h : Th t L N m w d) (h1 : t ≤ t') (h2 : L ≤ L') (h3 : N ≤ N') (h4 : m ≤ m') (h5 : w ≤ w') : Th t' L' N' m' w' d :=
  ⟨trk_mono h1 h.tr, tl_mono h2 h.tl, Nat.le_trans h.nc h3, h.da.mono h4 h5⟩
theorem Ths.mono (h : Ths t L N m w ds) (h1 : t ≤ t') (h2 : L ≤ L') (h3 : N ≤ N') (h4 : m ≤ m') (h5 : w ≤ w') : Ths t' L' N' m' w' ds :=
  ⟨fun d hd => trk_mono h1 (h.tr d hd), fun d hd => tl_mono h2 (h.tl d hd), Nat.le_trans h.nc h3, h.da.mono h4 h5⟩
theorem Th.tup (h : Ths t L N m w ds) (hl : ds.length ≤ L) (hL : L ≤ 1000) : Th (t + 1) L (N + 1) (m + 1) w (.tup ds) :=
  ⟨by simp only [trk, Bool.and_eq_true, decide_eq_true_eq, List.all_eq_true]; exact ⟨by omega, h.tr⟩, by simp only [Bx.tl, Bool.and_eq_true, decide_eq_true_eq]; exact ⟨hl, tls_iff.mpr h.tl⟩, by simp only [Bx.nc]; have := h.nc; omega, .tup h.da⟩
theorem Th.untup (h : Th t L N m w (.tup ds)) : ∃ t' m', t = t' + 1 ∧ m = m' + 1 ∧ Ths t' L (N - 1) m' w ds ∧ ds.length ≤ L := by
  obtain ⟨t', rfl, _, h2⟩ := tr_tup h.tr
  obtain ⟨m', rfl, h3⟩ := h.da.untup
  have h4 := h.tl
  simp only [Bx.tl, Bool.and_eq_true, decide_eq_true_eq] at h4
  have h5 := h.nc
  simp only [Bx.nc] at h5
  exact ⟨t', m', rfl, rfl, ⟨h2, tls_iff.mp h4.2, by omega, h3⟩, h4.1⟩
theorem Ths.append {N1 N2 w1 w2 : Nat} (a : Ths t L N1 m w1 ds) (b : Ths t L N2 m w2 es) (h1 : N1 + N2 ≤ N) (h2 : w1 + w2 ≤ w) : Ths t L N m w (ds ++ es) :=
  ⟨fun d hd => (List.mem_append.mp hd).elim (a.tr d) (b.tr d), fun d hd => (List.mem_append.mp hd).elim (a.tl d) (b.tl d), by rw [ncs_app]; have := a.nc; have := b.nc; omega, a.da.append b.da h2⟩
theorem Ths.one (a : Th t L N m w d) : Ths t L N m (w + 1) [d] :=
  ⟨by simpa using a.tr, by simpa using a.tl, by simpa [ncs] using a.nc, .one a.da (Nat.le_refl _)⟩
theorem Ths.nil : Ths t L N m w [] := ⟨by simp, by simp, by simp [ncs], .nil⟩
theorem Ths.cons {N1 N2 w1 w2 : Nat} (a : Th t L N1 m w1 d) (b : Ths t L N2 m w2 ds) (h1 : N1 + N2 ≤ N) (h2 : w1 + w2 + 1 ≤ w) : Ths t L N m w (d :: ds) :=
  Ths.append (Ths.one a) b h1 (by omega)
theorem Ths.split {i : Nat} (h : Ths t L N m w ds) (e : ds[i]? = some d) : ∃ N1 N2 N3 w1 w2 w3, Ths t L N1 m w1 (ds.take i) ∧ Th t L N2 m w2 d ∧ Ths t L N3 m w3 (ds.drop (i + 1)) ∧ N1 + N2 + N3 ≤ N ∧ w1 + w2 + w3 + 1 ≤ w := by
  obtain ⟨x, y, z, a, b, c, hw⟩ := h.da.split e
  have hi := (List.getElem?_eq_some_iff.mp e).1
  have ed : ds = ds.take i ++ d :: ds.drop (i + 1) := by
    have := List.take_append_drop i ds
    rw [List.drop_eq_getElem_cons hi] at this
    rw [(List.getElem?_eq_some_iff.mp e).2] at this
    exact this.symm
  have hn : ncs (ds.take i) + Bx.nc d + ncs (ds.drop (i + 1)) ≤ N := by
    have h1 := h.nc
    rw [ed, ncs_app] at h1
    simp only [ncs] at h1
    omega
  exact ⟨_, _, _, x, y, z, ⟨fun u hu => h.tr u (List.mem_of_mem_take hu), fun u hu => h.tl u (List.mem_of_mem_take hu), Nat.le_refl _, a⟩,
    ⟨h.tr d (List.mem_of_getElem? e), h.tl d (List.mem_of_getElem? e), Nat.le_refl _, b⟩, ⟨fun u hu => h.tr u (List.mem_of_mem_drop hu), fun u hu => h.tl u (List.mem_of_mem_drop hu), Nat.le_refl _, c⟩, hn, hw⟩
end
def deep : Nat → D
  | 0 => .lst []
  | n + 1 => .lst [deep n]
def ten39 : D := .int (10 ^ 39)
def big : D := .lst (List.replicate 4900 (.int 0))
def odds : List D := [.non, .bl true, .int 0, .int (-1), ten39, .str "", .str "A", .str "ninesigns", .str "a b", .tup [], .dct [], .dct [(.inr "a", .str "b")], .tup [.str "a"], .lst [.str "a"], deep 26, .tup [.str "same", .str "a"], .tup [.str "list", .str "a"], big]
def thB (t L N m w : Nat) (d : D) : Bool := trk t d && (tl L d && (decide (nc d ≤ N) && daB 45 m w d))
theorem th_of {t L N m w : Nat} {d : D} (h : thB t L N m w d = true) : Th t L N m w d := by
  simp only [thB, Bool.and_eq_true, decide_eq_true_eq] at h
  exact ⟨h.1, h.2.1, h.2.2.1, da_of h.2.2.2⟩
theorem das_rep : ∀ n : Nat, Das 45 0 n (List.replicate n (.int 0))
  | 0 => .nil
  | n + 1 => by
    rw [List.replicate_succ]
    exact .cons (x := 0) (da_of (by decide +kernel)) (das_rep n) (by omega)
def odds0 : List D := [.non, .bl true, .int 0, .int (-1), ten39, .str "", .str "A", .str "ninesigns", .str "a b", .tup [], .dct [], .dct [(.inr "a", .str "b")], .tup [.str "a"], .lst [.str "a"], deep 26, .tup [.str "same", .str "a"], .tup [.str "list", .str "a"]]
theorem odds_th : ∀ d ∈ odds, Th 1 3 3 27 4900 d := by
  have h0 : odds0.all (thB 1 3 3 27 4900) = true := by decide +kernel
  intro d hd
  rcases List.mem_append.mp (show d ∈ odds0 ++ [big] from hd) with hd | hd
  · exact th_of (List.all_eq_true.mp h0 d hd)
  · rw [List.mem_singleton] at hd
    subst hd
    exact ⟨rfl, rfl, by show 1 ≤ 3; decide, (Da.lst (das_rep 4900)).mono (by omega) (Nat.le_refl _)⟩
section
variable {T : Tab} {o : O} {r h : Hh} {X : Xp}
theorem idx_w {xs : List D} {i : Int} {Q : D → Hh → Prop} (h0 : 0 ≤ i) (h1 : i < xs.length) (q : ∀ x ∈ xs, Q x h) : wE (idxD (.lst xs) (.int i) h) Q X := by
  obtain ⟨x, hx, e⟩ := idx_lst (h := h) h0 h1
  exact wE_of e (q x hx)
theorem deep_loop {N : Rho → Hh → Prop} {R : D → Hh → Prop} : ∀ (l : List D) (j : Nat) (x2 : Option D), (∀ x, N [some (.ref 0), some (deep (j + l.length)), x, none] h) → wS (loopS (gN 2) (zSet 1 (xLst (xCons (xV 1) xNil))) l [some (.ref 0), some (deep j), x2, none] h) N R X
  | [], j, x2, q => .nx (q x2)
  | a :: l, j, x2, q => by
    refine loop_w rfl ?_
    simp
    refine deep_loop l (j + 1) _ fun x => ?_
    rw [show j + 1 + l.length = j + (a :: l).length by simp only [List.length_cons]; omega]
    exact q x
theorem rep_flat (n : Nat) : (List.replicate n [D.int 0]).flatten = List.replicate n (.int 0) := by
  induction n with
  | zero => rfl
  | succ n ih => rw [List.replicate_succ, List.replicate_succ, List.flatten_cons, ih]; rfl
theorem neg1 (h : Hh) : negD (.int 1) h = .ok (.int (-1)) h := rfl
theorem pow39 (h : Hh) : powD (.int 10) (.int 39) h = .ok ten39 h := rfl
theorem mulBig (h : Hh) : mulD (.lst [.int 0]) (.int 4900) h = .ok big h := by
  simp only [mulD, asL]
  rw [if_pos (by decide), show (4900 : Int).toNat = 4900 from rfl, rep_flat]
  rfl
theorem odd_w (hT : Dr T) (hO : T "_law_odd_value" = some ⟨1, 4, bOdd⟩) {n : Nat} (hn : 2 ≤ n) (B : Bg o) {Q : D → Hh → Prop} (q : ∀ d o', Bg o' → Th 1 3 3 27 4900 d → Q d (o' :: r)) : wE (callN T n "_law_odd_value" [.ref 0] (o :: r)) Q X := by
  obtain ⟨n, rfl⟩ : ∃ i, n = i + 2 := ⟨n - 2, by omega⟩
  refine call_w hO rfl ?_
  simp [bOdd, startR]
  rw [rng_at (by decide) (by decide)]
  simp only [wE_ok]
  refine deep_loop _ 0 none fun x => ?_
  rw [show 0 + ((List.range (26 : Int).toNat).map fun (k : Nat) => D.int (0 + (k : Int))).length = 26 by simp]
  simp [neg1, pow39]
  rw [mulBig]
  simp
  refine take_w hT B (by decide) (by decide) fun v o1 B1 v0 v1 => ?_
  refine idx_w v0 (by simpa using v1) fun d hd => ?_
  simp only [wS_rt, eC_bag]
  exact q d o1 B1 (odds_th d hd)
def bents (od : D) : List D := [od, .str "y", .str "Row", .tup [.str "name", .str "y"], .tup [.str "call", .str "x", .tup [.str "name", .str "x"]]]
theorem bents_th {od : D} (h : Th 1 3 3 27 4900 od) : ∀ d ∈ bents od, Th 2 3 6 27 4900 d := by
  intro d hd
  have h0 : [D.str "y", .str "Row", .tup [.str "name", .str "y"], .tup [.str "call", .str "x", .tup [.str "name", .str "x"]]].all (thB 2 3 6 27 4900) = true := by decide +kernel
  rcases List.mem_cons.mp hd with rfl | hd
  · exact h.mono (by omega) (by omega) (by omega) (by omega) (by omega)
  · exact th_of (List.all_eq_true.mp h0 d hd)
theorem nat_of {v : Int} (h : 0 ≤ v) : ∃ i : Nat, v = i := ⟨v.toNat, by omega⟩
theorem idx_tupN {ds : List D} {i : Nat} {d : D} (e : ds[i]? = some d) : idxD (.tup ds) (.int i) h = .ok d h := by
  have hi := (List.getElem?_eq_some_iff.mp e).1
  have h1 : ¬ ((i : Int) < 0) := by omega
  have h2 : (i : Int) < ds.length := by omega
  simp [idxD, asS, atI, ixN, e, h1, h2]
theorem slct_lo1 {ds : List D} {i : Nat} : slcD (.tup ds) (some ((i : Int) + 1)) none h = .ok (.tup (ds.drop (i + 1))) h := slct_lo (t := i + 1)
@[simp] theorem eq0_at {ds : List D} : eq0D (.tup ds) (.tup []) h = .ok (.bl ds.isEmpty) h := rfl
theorem bent_w (hT : Dr T) (hO : T "_law_odd_value" = some ⟨1, 4, bOdd⟩) (hB : T "_law_bent" = some ⟨2, 4, bBent⟩) {L : Nat} (h3 : 3 ≤ L) (hL : L ≤ 900) : ∀ (t n N m w : Nat) (d : D) (o : O) (Q : D → Hh → Prop) (X : Xp), Th t L N m w d → t + 4 ≤ n → Bg o →
    (∀ d' o', Bg o' → Th (t + 2) (L + 1) (2 * N + 6) (m + 27) (2 * w + 4901) d' → Q d' (o' :: r)) → wE (callN T n "_law_bent" [.ref 0, d] (o :: r)) Q X := by
  intro t
  induction t using Nat.strongRecOn with
  | ind t ih =>
    intro n N m w d o Q X hd hn B q
    obtain ⟨n, rfl⟩ : ∃ i, n = i + 3 := ⟨n - 3, by omega⟩
    refine call_w hB rfl ?_
    have hfin : ∀ d' o', Bg o' → Th 2 3 6 27 4900 d' → eC (o :: r) Q d' (o' :: r) := fun d' o2 B2 h2 => by
      simp only [eC_bag]
      exact q d' o2 B2 (h2.mono (by omega) (by omega) (by omega) (by omega) (by omega))
    rcases trk_cases hd.tr with ⟨x, rfl, hx⟩ | ⟨ds, k', rfl, e, hl, hp⟩ | oo
    · simp [bBent, startR]
      (refine odd_w hT hO (by omega) B (fun od oa Ba ha => ?_); try simp; refine take_w hT Ba (by decide) (by decide) (fun v ob Bb v0 v1 => ?_); refine idx_w v0 (by simpa using v1) (fun d' hd' => ?_); exact hfin d' ob Bb (bents_th ha d' hd'))
    · subst e
      have hN0 : 1 ≤ N := Nat.le_trans (nc_pos _) hd.nc
      obtain ⟨_, m, e1, rfl, hds, hlen⟩ := hd.untup
      cases e1
      rcases ds with _ | ⟨a, l⟩
      · simp [bBent, startR]
        (refine odd_w hT hO (by omega) B (fun od oa Ba ha => ?_); try simp; refine take_w hT Ba (by decide) (by decide) (fun v ob Bb v0 v1 => ?_); refine idx_w v0 (by simpa using v1) (fun d' hd' => ?_); exact hfin d' ob Bb (bents_th ha d' hd'))
      · generalize hds' : a :: l = ds at *
        have hne : ds.isEmpty = false := by rw [← hds']; rfl
        have hpos : 0 < ds.length := by rw [← hds']; simp
        simp [bBent, startR, hne]
        refine take_w hT B (by decide) (by decide) fun v o1 B1 v0 v1 => ?_
        simp
        split
        · (refine odd_w hT hO (by omega) B1 (fun od oa Ba ha => ?_); try simp; refine take_w hT Ba (by decide) (by decide) (fun v ob Bb v0 v1 => ?_); refine idx_w v0 (by simpa using v1) (fun d' hd' => ?_); exact hfin d' ob Bb (bents_th ha d' hd'))
        · refine take_w hT B1 (by omega) (by omega) fun at_ o2 B2 a0 a1 => ?_
          simp
          refine take_w hT B2 (by decide) (by decide) fun way o3 B3 w0 w1 => ?_
          obtain ⟨i, rfl⟩ := nat_of a0
          obtain ⟨y, hy⟩ : ∃ y, ds[i]? = some y := ⟨_, List.getElem?_eq_getElem (by omega)⟩
          obtain ⟨N1, N2, N3, w1', w2', w3', s1, s2, s3, hN, hW⟩ := hds.split hy
          simp [idx_tupN hy, slct_hi, slct_lo1]
          split
          · exact ⟨by omega, q _ o3 B3 ((Th.tup (L := L + 1) ((hds.append (Ths.one s2) (Nat.le_refl _) (Nat.le_refl _)).mono (Nat.le_refl _) (by omega) (Nat.le_refl _) (Nat.le_refl _) (Nat.le_refl _)) (by simp; omega) (by omega)).mono (by omega) (by omega) (by omega) (by omega) (by omega))⟩
          split
          · exact ⟨by omega, q _ o3 B3 ((Th.tup (L := L + 1) ((s1.append s3 (Nat.le_refl _) (Nat.le_refl _)).mono (Nat.le_refl _) (by omega) (Nat.le_refl _) (Nat.le_refl _) (Nat.le_refl _)) (by simp; omega) (by omega)).mono (by omega) (by omega) (by omega) (by omega) (by omega))⟩
          split
          · exact q _ o3 B3 ⟨rfl, rfl, by show 1 ≤ _; omega, (Da.lst hds.da).mono (by omega) (by omega)⟩
          · refine ih k' (by omega) _ _ _ _ _ _ _ _ s2 (by omega) B3 fun d' o4 B4 h4 => ?_
            simp [slct_lo1]
            refine ⟨by omega, ?_⟩
            try simp [slct_lo1]
            refine ⟨by omega, ?_⟩
            have z : ds.take i ++ d' :: ds.drop (i + 1) = ds.take i ++ [d'] ++ ds.drop (i + 1) := by simp
            rw [z]
            refine q _ o4 B4 ((Th.tup (L := L + 1) (Ths.append (Ths.append (s1.mono (show k' ≤ k' + 2 by omega) (Nat.le_succ L) (Nat.le_refl _) (show m ≤ m + 27 by omega) (Nat.le_refl _)) (Ths.one h4) (Nat.le_refl _) (Nat.le_refl _)) (s3.mono (by omega) (Nat.le_succ L) (Nat.le_refl _) (by omega) (Nat.le_refl _)) (Nat.le_refl _) (Nat.le_refl _)) (by simp; omega) (by omega)).mono (by omega) (by omega) (by omega) (by omega) (by omega))
    · simp [bBent, startR, oo.t]
      (refine odd_w hT hO (by omega) B (fun od oa Ba ha => ?_); try simp; refine take_w hT Ba (by decide) (by decide) (fun v ob Bb v0 v1 => ?_); refine idx_w v0 (by simpa using v1) (fun d' hd' => ?_); exact hfin d' ob Bb (bents_th ha d' hd'))
end
end Bx
namespace Bx
open PySem PySem.Spec PyProof.Rows L2
noncomputable def bSignature (cl : Str → List D → Hh → Res D) : Fs :=
  zSeq (zSet 2 (xNdct0))
    (zSeq (zFor (iV (xSlc (xLst (xCons (xC (.str "x")) (xCons (xC (.str "f")) (xCons (xC (.str "list")) (xCons (xC (.str "print")) (xNil)))))) (xNo) (xSome (xBin addD (xC (.int 1)) (xCall 2 (cl "_law_take") (xCons (xV 0) (xCons (xC (.int 4)) (xNil)))))))) (gN 3) (zSeq (zSet 4 (xCall 3 (cl "_law_any_kind") (xCons (xV 0) (xCons (xV 1) (xCons (xC (.int 3)) (xNil))))))
    (zSeq (zIf (yAnd (yV (xBin inD (xV 3) (xTup (xCons (xC (.str "f")) (xCons (xC (.str "print")) (xNil)))))) (yV (xBin gtD (xCall 2 (cl "_law_take") (xCons (xV 0) (xCons (xC (.int 3)) (xNil)))) (xC (.int 0))))) (zSet 4 (xTup (xCons (xC (.str "fun")) (xCons (xCall 3 (cl "_law_kind") (xCons (xV 0) (xCons (xV 1) (xCons (xC (.int 2)) (xNil))))) (xCons (xCall 3 (cl "_law_kind") (xCons (xV 0) (xCons (xV 1) (xCons (xC (.int 2)) (xNil))))) (xNil)))))) (zNext))
    (zSetKy (xV 2) (xV 3) (xV 4)))))
    (zRet (xGoD (xV 2))))
noncomputable def bTerm (cl : Str → List D → Hh → Res D) : Fs :=
  zSeq (zSet 4 (xCall 2 (cl "_law_take") (xCons (xV 0) (xCons (xC (.int 7)) (xNil)))))
    (zSeq (zSet 5 (xLcG lcF (iV (xSrtD (xV 2))) [7] (gN 7) (yAnd (yV (xBin eqD (xIdx (xIdx (xV 2) (xV 7)) (xC (.int 0))) (xC (.str "fun")))) (yV (xBi .isi (xCons (xIdx (xV 2) (xV 7)) (xCons (xC (.val (.ty "tuple"))) (xNil)))))) (xV 7)))
    (zSeq (zIf (yOr (yV (xBin eqD (xV 3) (xC (.int 0)))) (yV (xBin ltD (xV 4) (xC (.int 2))))) (zSeq (zSet 7 (xCall 2 (cl "_law_one") (xCons (xV 0) (xCons (xSrtD (xV 2)) (xNil)))))
    (zRet (xTup (xCons (xTup (xCons (xC (.str "name")) (xCons (xV 7) (xNil)))) (xCons (xIdx (xV 2) (xV 7)) (xNil)))))) (zNext))
    (zSeq (zIf (yV (xBin eqD (xV 4) (xC (.int 2)))) (zSeq (zPar 10 11 (xCons (xCall 4 (cl "_law_term") (xCons (xV 0) (xCons (xV 1) (xCons (xV 2) (xCons (xBin subD (xV 3) (xC (.int 1))) (xNil)))))) (xCons (xCall 4 (cl "_law_term") (xCons (xV 0) (xCons (xV 1) (xCons (xV 2) (xCons (xBin subD (xV 3) (xC (.int 1))) (xNil)))))) (xNil))))
    (zSeq (zIf (yV (xBin gtD (xBin addD (xCall 1 (cl "_law_size") (xCons (xIdx (xV 10) (xC (.int 1))) (xNil))) (xCall 1 (cl "_law_size") (xCons (xIdx (xV 11) (xC (.int 1))) (xNil)))) (xC (.int 7)))) (zRet (xV 10)) (zNext))
    (zRet (xTup (xCons (xTup (xCons (xC (.str "both")) (xCons (xIdx (xV 10) (xC (.int 0))) (xCons (xIdx (xV 11) (xC (.int 0))) (xNil))))) (xCons (xTup (xCons (xC (.str "pair")) (xCons (xIdx (xV 10) (xC (.int 1))) (xCons (xIdx (xV 11) (xC (.int 1))) (xNil))))) (xNil))))))) (zNext))
    (zSeq (zIf (yAnd (yV (xBin eqD (xV 4) (xC (.int 3)))) (yV (xBin neD (xV 5) (xLst (xNil))))) (zSeq (zSet 7 (xCall 2 (cl "_law_one") (xCons (xV 0) (xCons (xV 5) (xNil)))))
    (zRet (xTup (xCons (xTup (xCons (xC (.str "call")) (xCons (xV 7) (xCons (xIdx (xCall 4 (cl "_law_term") (xCons (xV 0) (xCons (xV 1) (xCons (xV 2) (xCons (xBin subD (xV 3) (xC (.int 1))) (xNil)))))) (xC (.int 0))) (xNil))))) (xCons (xIdx (xIdx (xV 2) (xV 7)) (xC (.int 2))) (xNil)))))) (zNext))
    (zSeq (zSet 6 (xIfe (yV (xBin eqD (xCall 2 (cl "_law_take") (xCons (xV 0) (xCons (xC (.int 3)) (xNil)))) (xC (.int 0)))) (xCall 3 (cl "_law_any_kind") (xCons (xV 0) (xCons (xV 1) (xCons (xC (.int 3)) (xNil))))) (xCall 3 (cl "_law_kind") (xCons (xV 0) (xCons (xV 1) (xCons (xC (.int 3)) (xNil)))))))
    (zSeq (zIf (yV (xBin eqD (xV 4) (xC (.int 4)))) (zSeq (zSet 8 (xIdx (xLst (xCons (xC (.int 0)) (xCons (xC (.int 1)) (xCons (xC (.int 2)) (xCons (xC (.int 2)) (xCons (xC (.int 3)) (xCons (xC (.int 6)) (xNil)))))))) (xCall 2 (cl "_law_take") (xCons (xV 0) (xCons (xC (.int 6)) (xNil))))))
    (zSeq (zSet 9 (xLcG lcF (iR1 (xCons (xV 8) (xNil))) [12] (gN 12) (yYes) (xIdx (xCall 4 (cl "_law_term") (xCons (xV 0) (xCons (xV 1) (xCons (xV 2) (xCons (xBin subD (xV 3) (xC (.int 1))) (xNil)))))) (xC (.int 0)))))
    (zRet (xTup (xCons (xTup (xCons (xC (.str "row")) (xCons (xV 6) (xCons (xBi .tuple (xCons (xV 9) (xNil))) (xNil))))) (xCons (xTup (xCons (xC (.str "list")) (xCons (xV 6) (xNil)))) (xNil))))))) (zNext))
    (zRet (xTup (xCons (xTup (xCons (xC (.str "as")) (xCons (xV 6) (xCons (xIdx (xCall 4 (cl "_law_term") (xCons (xV 0) (xCons (xV 1) (xCons (xV 2) (xCons (xBin subD (xV 3) (xC (.int 1))) (xNil)))))) (xC (.int 0))) (xNil))))) (xCons (xV 6) (xNil)))))))))))

section
variable {T : Tab} {o : O} {r h : Hh} {X : Xp} {s : List (Str × Kd)}
theorem rngN {m : Nat} (hm : m ≤ 1000) : rng1D [.int (m : Int)] h = .ok ((List.range m).map fun (k : Nat) => .int (k : Int)) h := by
  have h1 : -(2 ^ 62) ≤ (m : Int) := Int.le_trans (by decide) (Int.natCast_nonneg m)
  have h2 : (m : Int) < 2 ^ 62 := Int.lt_of_le_of_lt (Int.ofNat_le.mpr hm) (by decide)
  rw [rng_at h1 h2]
  simp
@[simp] theorem tuple_lst {ys : List D} : biS .tuple [.lst ys] h = .ok (.tup ys) h := rfl
@[simp] theorem list_lst {ys : List D} : biS .list [.lst ys] h = .ok (.lst ys) h := rfl
theorem any_kind_w (hT : Dr T) (ta : T "_law_any_kind" = some ⟨3, 6, bAnyKind⟩) {xs : List Str} (N : Nms xs) {u : Nat} {n : Nat} (h1 : 1 ≤ u) (h2 : u ≤ 1000) (hn : u + 2 ≤ n) (B : Bg o) {Q : D → Hh → Prop} (q : ∀ (k : Kd) o', Bg o' → k.good → k.size ≤ u → Q k.enc (o' :: r)) : wE (callN T n "_law_any_kind" [.ref 0, .lst (xs.map .str), .int u] (o :: r)) Q X := by
  obtain ⟨j, rfl⟩ : ∃ j, n = j + u + 2 := ⟨n - u - 2, by omega⟩
  obtain ⟨k, o', e, g, s, B'⟩ := any_kind_call hT.take hT.one ta N (r := r) u j o h1 h2 B
  exact wE_of e (q k o' B' g s)
theorem lc_w {i : Nat} {e : Fn} {ρ : Rho} {ds : List D} {I : Hh → Prop} {P : D → Prop} {Q : List D → Hh → Prop} (h0 : I h) (he : ∀ x ∈ ds, ∀ h, I h → wE (e (ρ.set i (some x)) h) (fun y h' => I h' ∧ P y) noE) (q : ∀ ys h', I h' → ys.length = ds.length → (∀ y ∈ ys, P y) → Q ys h') : wE (noX (lcL (gN i) yYes e ρ ds h)) Q X := by
  obtain ⟨ys, h', e1, e2, e3, e4⟩ := lc_inv (I := I) (P := P) (fun x hx h hi => by
    obtain ⟨y, h', z1, z2, z3⟩ := wE_ex (he x hx h hi)
    exact ⟨y, h', z1, z2, z3⟩) h0
  rw [e1]
  exact .ok (q ys h' e2 e3 e4)
theorem bag_ob (B : Bg o) (n : Nat) : OB n o := by
  obtain ⟨a, b, c, cells, rfl, _⟩ := B.ex
  refine .cons (.int _) (.cons (.int _) (.cons (.int _) (.cons (.lst (.of fun d hd => ?_)) .nil)))
  obtain ⟨x, _, rfl⟩ := List.mem_map.mp hd
  exact .int _
theorem keep_bag {o' : O} {x : Hh} (B : Bg o') : Keep (o :: r) (o' :: (r ++ x)) := fun i u hi e => by
  cases i with
  | zero =>
    simp at e
    subst e
    exact .inr (bag_ob B _)
  | succ i =>
    simp at hi e
    rw [List.getElem?_append_left hi] at e
    exact .inl (by simpa using e)
theorem eC_bagcut {Q : D → Hh → Prop} {o' : O} {x : Hh} {d : D} (B : Bg o') (hb : Bel (r.length + 1) d) : eC (o :: r) Q d (o' :: (r ++ x)) = Q d (o' :: r) := by
  have hb' : Bel (o :: r).length d := hb
  simp only [eC, Bx.endC, if_pos (keep_bag B), List.length_cons, List.take_succ_cons, List.take_left', if_pos hb, wE_ok]
theorem dput_S {x : Str} {k : Kd} (hx : x ∉ s.map (·.1)) : dput (sE s) (.inr x) k.enc = sE (s ++ [(x, k)]) := by
  have : ((sE s).any fun p => decide (p.1 = .inr x)) = false := by
    rw [List.any_eq_false]
    intro p hp
    obtain ⟨q, hq, rfl⟩ := List.mem_map.mp hp
    simp only [decide_eq_true_eq]
    intro e
    have : q.1 = x := by injection e
    exact hx (List.mem_map.mpr ⟨q, hq, this⟩)
  unfold dput
  rw [this]
  simp [sE]
theorem setky_at {n : Nat} {kds : List (Key × D)} {x : Str} {d : D} (hn : h[n]? = some (.dct kds)) (hl : kds.length < 1000) : setKy (.ref n) (.str x) d h = some (h.set n (.dct (dput kds (.inr x) d))) := by
  have : kds.length < sizeLine := Nat.lt_trans hl (by decide)
  simp only [setKy, hn, toK, this, decide_true, if_true]
/-- kinds of a signature -/
structure Sk (s : List (Str × Kd)) : Prop where
  kd : ∀ p ∈ s, p.2.good ∧ p.2.size ≤ 5
  nm : ∀ p ∈ s, SS 5 p.1 ∧ 0 < p.1.length
  nd : (s.map (·.1)).Nodup
def sigL (r : Hh) (xs : List Str) (s : List (Str × Kd)) (ys : List Str) : Rho → Hh → Prop := fun ρ h => ∃ s' o' x3 x4, Bg o' ∧ Sk s' ∧ s'.map (·.1) = s.map (·.1) ++ ys ∧ ρ = [some (.ref 0), some (.lst (xs.map .str)), some (.ref (r.length + 1)), x3, x4] ∧ h = o' :: (r ++ [.dct (sE s')])
noncomputable def sigBody (cl : Str → List D → Hh → Res D) : Fs := zSeq (zSet 4 (xCall 3 (cl "_law_any_kind") (xCons (xV 0) (xCons (xV 1) (xCons (xC (.int 3)) (xNil))))))
    (zSeq (zIf (yAnd (yV (xBin inD (xV 3) (xTup (xCons (xC (.str "f")) (xCons (xC (.str "print")) (xNil)))))) (yV (xBin gtD (xCall 2 (cl "_law_take") (xCons (xV 0) (xCons (xC (.int 3)) (xNil)))) (xC (.int 0))))) (zSet 4 (xTup (xCons (xC (.str "fun")) (xCons (xCall 3 (cl "_law_kind") (xCons (xV 0) (xCons (xV 1) (xCons (xC (.int 2)) (xNil))))) (xCons (xCall 3 (cl "_law_kind") (xCons (xV 0) (xCons (xV 1) (xCons (xC (.int 2)) (xNil))))) (xNil)))))) (zNext))
    (zSetKy (xV 2) (xV 3) (xV 4)))
theorem sig_loop (hT : Dr T) (ta : T "_law_any_kind" = some ⟨3, 6, bAnyKind⟩) (hk : T "_law_kind" = some ⟨3, 5, bKind⟩) {xs : List Str} (N : Nms xs) {n : Nat} (hn : 5 ≤ n) {R : D → Hh → Prop} : ∀ (ys : List Str) (s : List (Str × Kd)) (o : O) (x3 x4 : Option D), Bg o → Sk s → (s.map (·.1) ++ ys).Nodup → (∀ y ∈ ys, SS 5 y ∧ 0 < y.length) → s.length + ys.length ≤ 10 →
    wS (loopS (gN 3) (sigBody (callN T n)) (ys.map .str) [some (.ref 0), some (.lst (xs.map .str)), some (.ref (r.length + 1)), x3, x4] (o :: (r ++ [.dct (sE s)]))) (sigL r xs s ys) R X := by
  intro ys
  induction ys with
  | nil =>
    intro s o x3 x4 B S nd _ _
    exact .nx ⟨s, o, x3, x4, B, S, by simp, rfl, rfl⟩
  | cons y ys ih =>
    intro s o x3 x4 B S nd hy hl
    simp only [List.length_cons] at hl
    obtain ⟨n, rfl⟩ : ∃ i, n = i + 1 := ⟨n - 1, by omega⟩
    have hyn : y ∉ s.map (·.1) := by
      rw [List.nodup_append] at nd
      intro z
      exact nd.2.2 y z y (List.mem_cons_self ..) rfl
    have fin : ∀ (k : Kd) (o1 : O), Bg o1 → k.good → k.size ≤ 5 → wS (loopS (gN 3) (sigBody (callN T (n + 1))) (ys.map .str) [some (.ref 0), some (.lst (xs.map .str)), some (.ref (r.length + 1)), some (.str y), some k.enc] (o1 :: (r ++ [.dct (sE (s ++ [(y, k)]))]))) (sigL r xs s (y :: ys)) R X := fun k o1 B1 g1 s1 => by
      refine wS_mono (ih (s ++ [(y, k)]) o1 _ _ B1 ⟨?_, ?_, ?_⟩ (by simpa using nd) (fun z hz => hy z (List.mem_cons_of_mem _ hz)) (by simp; omega)) ?_ (fun _ _ z => z) (fun _ _ _ z => z)
      · intro p hp
        rcases List.mem_append.mp hp with hp | hp
        · exact S.kd p hp
        · rw [List.mem_singleton] at hp; subst hp; exact ⟨g1, s1⟩
      · intro p hp
        rcases List.mem_append.mp hp with hp | hp
        · exact S.nm p hp
        · rw [List.mem_singleton] at hp; subst hp; exact hy y (List.mem_cons_self ..)
      · have := nd
        simp only [List.map_append, List.map_cons, List.map_nil]
        rw [List.append_cons] at this
        exact (List.nodup_append.mp this).1
      · rintro _ _ ⟨s', o', z3, z4, b1, b2, b3, rfl, rfl⟩
        exact ⟨s', o', z3, z4, b1, b2, by simpa using b3, rfl, rfl⟩
    have hset : ∀ (k : Kd) (o1 : O), setKy (.ref (r.length + 1)) (.str y) k.enc (o1 :: (r ++ [.dct (sE s)])) = some (o1 :: (r ++ [.dct (sE (s ++ [(y, k)]))])) := fun k o1 => by
      rw [setky_at (kds := sE s) (by simp) (by simp [sE]; omega), dput_S hyn]
      simp
    refine loop_w rfl ?_
    simp [sigBody]
    refine any_kind_w hT ta N (u := 3) (by omega) (by omega) (by omega) B fun k1 o1 B1 g1 s1 => ?_
    simp
    split
    · refine take_w hT B1 (by decide) (by decide) fun v o2 B2 v0 v1 => ?_
      simp
      split
      · refine kind_w hT hk N _ 2 _ _ _ (by omega) (by omega) (by omega) B2 fun k2 o3 B3 g3 s3 p3 => ?_
        simp
        refine kind_w hT hk N _ 2 _ _ _ (by omega) (by omega) (by omega) B3 fun k4 o4 B4 g4 s4 p4 => ?_
        have e := hset (.fn k2 k4) o4
        simp only [Kd.enc] at e
        simp [e]
        exact fin (.fn k2 k4) o4 B4 ⟨g3, g4⟩ (by simp only [Kd.size]; omega)
      · simp [hset]
        exact fin k1 o2 B2 g1 (by omega)
    · simp [hset]
      exact fin k1 o1 B1 g1 (by omega)
def sNames : List Str := ["x", "f", "list", "print"]
theorem signature_w (hT : Dr T) (ta : T "_law_any_kind" = some ⟨3, 6, bAnyKind⟩) (hk : T "_law_kind" = some ⟨3, 5, bKind⟩) (hs : T "_law_signature" = some ⟨2, 5, bSignature⟩) {xs : List Str} (N : Nms xs) {n : Nat} (hn : 6 ≤ n) (B : Bg o) {Q : D → Hh → Prop}
    (q : ∀ s o', Bg o' → Sk s → 1 ≤ s.length → s.length ≤ 4 → Q (.dct (sE s)) (o' :: r)) : wE (callN T n "_law_signature" [.ref 0, .lst (xs.map .str)] (o :: r)) Q X := by
  obtain ⟨n, rfl⟩ : ∃ i, n = i + 2 := ⟨n - 2, by omega⟩
  refine call_w hs rfl ?_
  simp [bSignature, startR]
  refine take_w hT B (by decide) (by decide) fun v o1 B1 v0 v1 => ?_
  obtain ⟨v, rfl⟩ := nat_of v0
  have e1 : ∀ h, slcD (.lst [.str "x", .str "f", .str "list", .str "print"]) none (some (1 + (v : Int))) h = .ok (.lst ((sNames.take (1 + v)).map .str)) h := fun h => by
    rw [show (1 + (v : Int)) = ((1 + v : Nat) : Int) by omega, slc_hi, List.map_take]
    rfl
  simp [e1]
  rw [← List.map_take]
  have hall : ∀ y ∈ sNames.take (1 + v), SS 5 y ∧ 0 < y.length := fun y hy => by
    have : sNames.all (fun y => ssB 5 y && decide (0 < y.length)) = true := by decide +kernel
    have := List.all_eq_true.mp this y (List.mem_of_mem_take hy)
    simp only [Bool.and_eq_true, decide_eq_true_eq] at this
    exact ⟨ss_of this.1, this.2⟩
  have hnd : (sNames.take (1 + v)).Nodup := List.Nodup.sublist (List.take_sublist _ _) (by decide +kernel)
  have hlen : (sNames.take (1 + v)).length = 1 + v := by
    have : sNames.length = 4 := rfl
    rw [List.length_take]
    omega
  refine wS_mono (sig_loop hT ta hk N (by omega) (sNames.take (1 + v)) [] o1 none none B1 ⟨by simp, by simp, by simp⟩ (by simpa using hnd) hall (by rw [hlen]; simp; omega)) ?_ (fun _ _ z => z) (fun _ _ _ z => z)
  rintro _ _ ⟨s', o', z3, z4, b1, b2, b3, rfl, rfl⟩
  simp
  have hl : s'.length = 1 + v := by
    have := congrArg List.length b3
    simpa [hlen] using this
  rw [eC_bagcut b1 (.dct (.of fun d hd => by
    obtain ⟨p, hp, rfl⟩ := List.mem_map.mp hd
    obtain ⟨u, _, rfl⟩ := List.mem_map.mp hp
    exact Kd.bel _ _))]
  exact q s' o' b1 b2 (by omega) (by omega)
/-- what a drawn term is -/
def tB : Nat → Nat
  | 0 => 3
  | n + 1 => 6 * tB n + 12
def tW : Nat → Nat
  | 0 => 20
  | n + 1 => 6 * tW n + 60
def Tg (n : Nat) (d : D) : Prop := ∃ (t : D) (k : Kd), d = .tup [t, k.enc] ∧ k.good ∧ k.size ≤ 8 ∧ Th (2 * n + 3) 6 (tB n) (2 * n + 3) (tW n) t
theorem th_str {x : Str} {n t L m : Nat} (s : SS n x) (hn : n ≤ 1000) : Th t L 1 m n (.str x) := ⟨by have := s.le; cases t <;> simp [trk] <;> omega, rfl, by simp [nc], .ss s (Nat.le_refl _)⟩
theorem th_word {x : Str} {t L m : Nat} (h : ssB 9 x = true) : Th t L 1 m 9 (.str x) := th_str (ss_of h) (by omega)
theorem th2 {a b : D} {t L N1 N2 m w1 w2 : Nat} (ha : Th t L N1 m w1 a) (hb : Th t L N2 m w2 b) (h1 : 2 ≤ L) (h2 : L ≤ 1000) : Th (t + 1) L (N1 + N2 + 1) (m + 1) (w1 + w2 + 2) (.tup [a, b]) :=
  Th.tup (Ths.cons ha (Ths.one hb) (Nat.le_refl _) (by omega)) h1 h2
theorem th3 {a b c : D} {t L N1 N2 N3 m w1 w2 w3 : Nat} (ha : Th t L N1 m w1 a) (hb : Th t L N2 m w2 b) (hc : Th t L N3 m w3 c) (h1 : 3 ≤ L) (h2 : L ≤ 1000) : Th (t + 1) L (N1 + N2 + N3 + 1) (m + 1) (w1 + w2 + w3 + 3) (.tup [a, b, c]) :=
  (Th.tup (Ths.cons ha (Ths.cons hb (Ths.one hc) (Nat.le_refl _) (Nat.le_refl _)) (Nat.le_refl _) (Nat.le_refl _)) h1 h2).mono (by omega) (by omega) (by omega) (by omega) (by omega)
theorem Ths.of_all {t L N m w : Nat} : ∀ {ys : List D} {c : Nat}, (∀ y ∈ ys, Th t L N m w y) → ys.length ≤ c → Ths t L (c * N) m (c * (w + 1)) ys
  | [], _, _, _ => .nil
  | y :: ys, 0, _, h => by simp at h
  | y :: ys, c + 1, h, hl => by
    have := Ths.of_all (c := c) (fun z hz => h z (List.mem_cons_of_mem _ hz)) (by simpa using hl)
    exact Ths.cons (h y (List.mem_cons_self ..)) this (by rw [Nat.add_mul]; omega) (by rw [Nat.add_mul]; omega)
theorem kd_th0 {k : Kd} (g : k.good) : Th k.depth 6 (2 * k.size) k.depth (14 * k.size) k.enc := by
  induction k with
  | nm x => exact (th_str g.1 (by omega)).mono (Nat.le_refl _) (Nat.le_refl _) (by simp [Kd.size]) (Nat.le_refl _) (by simp [Kd.size])
  | ls a ih => exact (th2 (th_word (by decide +kernel)) (ih g) (by omega) (by omega)).mono (by simp only [Kd.depth]; omega) (Nat.le_refl _) (by simp only [Kd.size]; omega) (by simp only [Kd.depth]; omega) (by simp only [Kd.size]; omega)
  | pr a b iha ihb =>
    refine (th3 (th_word (by decide +kernel)) ((iha g.1).mono (Nat.le_max_left _ b.depth) (Nat.le_refl _) (Nat.le_refl _) (Nat.le_max_left _ b.depth) (Nat.le_refl _)) ((ihb g.2).mono (Nat.le_max_right a.depth _) (Nat.le_refl _) (Nat.le_refl _) (Nat.le_max_right a.depth _) (Nat.le_refl _)) (by omega) (by omega)).mono ?_ (Nat.le_refl _) (by simp only [Kd.size]; omega) ?_ (by simp only [Kd.size]; omega) <;> simp only [Kd.depth] <;> omega
  | fn a b iha ihb =>
    refine (th3 (th_word (by decide +kernel)) ((iha g.1).mono (Nat.le_max_left _ b.depth) (Nat.le_refl _) (Nat.le_refl _) (Nat.le_max_left _ b.depth) (Nat.le_refl _)) ((ihb g.2).mono (Nat.le_max_right a.depth _) (Nat.le_refl _) (Nat.le_refl _) (Nat.le_max_right a.depth _) (Nat.le_refl _)) (by omega) (by omega)).mono ?_ (Nat.le_refl _) (by simp only [Kd.size]; omega) ?_ (by simp only [Kd.size]; omega) <;> simp only [Kd.depth] <;> omega
theorem kd_th {k : Kd} (g : k.good) (hs : k.size ≤ 3) {m : Nat} (hm : 2 ≤ m) : Th m 6 6 m 42 k.enc :=
  have := Kd.depth_lt k
  (kd_th0 g).mono (by omega) (Nat.le_refl _) (by omega) (by omega) (by omega)
theorem strKeys_S : ∀ s : List (Str × Kd), strKeys (sE s) = some (s.map (·.1))
  | [] => rfl
  | p :: s => by
    have := strKeys_S s
    simp only [sE] at this
    simp only [sE, List.map_cons, strKeys, this, Option.map_some]
def isF (s : List (Str × Kd)) (x : Str) : Bool := match s.lookup x with
  | some (.fn _ _) => true
  | _ => false
def srt (s : List (Str × Kd)) : List Str := (s.map (·.1)).mergeSort sle
theorem srt_len : (srt s).length = s.length := by simp [srt]
theorem srt_look {x : Str} (h : x ∈ srt s) : ∃ k, s.lookup x = some k ∧ (x, k) ∈ s := by
  have h : x ∈ s.map (·.1) := by simpa [srt] using h
  rename_i h0
  clear h0
  induction s with
  | nil => simp at h
  | cons p s ih =>
    obtain ⟨y, k⟩ := p
    by_cases c : x = y
    · subst c
      exact ⟨k, by simp [List.lookup], by simp⟩
    · have c2 : (x == y) = false := by simpa using c
      have h2 : x ∈ s.map (·.1) := by simpa [c] using h
      obtain ⟨k', e, m⟩ := ih h2
      exact ⟨k', by simp only [List.lookup, c2]; exact e, List.mem_cons_of_mem _ m⟩
theorem cond_at {k : Kd} (g : k.good) {x : Str} (e : s.lookup x = some k) {ρ : Rho} (h2 : ρ[2]? = some (some (.dct (sE s)))) (h7 : ρ[7]? = some (some (.str x))) : (yAnd (yV (xBin eqD (xIdx (xIdx (xV 2) (xV 7)) (xC (D.int 0))) (xC (D.str "fun")))) (yV (xBi Bi.isi (xCons (xIdx (xV 2) (xV 7)) (xCons (xC (D.val (V.ty "tuple"))) xNil))))) ρ h = .ok (isF s x) h := by
  cases k with
  | nm y =>
    obtain ⟨c, _, ec⟩ := idx_str (h := h) (z := y) (i := 0) (Nat.le_trans g.1.le (by omega)) (by omega) (by have := g.2; omega)
    have ne : ¬ ((⟨#[c]⟩ : Str) = "fun") := fun z => by
      have := congrArg (fun x : Str => x.cps.size) z
      revert this
      simp only [show (Str.ofString "fun").cps.size = 3 from rfl]
      simp
    simp [h2, h7, idx_dctS, e, Kd.enc, ec, ne, isF]
  | ls y => simp [h2, h7, idx_dctS, e, Kd.enc, isF]
  | pr y z => simp [h2, h7, idx_dctS, e, Kd.enc, isF]
  | fn y z => simp [h2, h7, idx_dctS, e, Kd.enc, isF]
theorem Sk.at (S : Sk s) {x : Str} {k : Kd} (e : (x, k) ∈ s) : (k.good ∧ k.size ≤ 5) ∧ SS 5 x ∧ 0 < x.length := ⟨S.kd _ e, S.nm _ e⟩
theorem lcs2 {a b : Kd} {n : Nat} {d : D} (h1 : callN T n "_law_size" [a.enc] h = .ok (.int a.size) h) (h2 : callN T n "_law_size" [b.enc] h = .ok (.int b.size) h) :
    noX (lcL (gN 1) yYes (xCall 1 (callN T n "_law_size") (xCons (xV 1) xNil)) [some d, none] [a.enc, b.enc] h) = .ok [.int a.size, .int b.size] h := by
  simp [lcL, h1, h2]
theorem lsize_g (L : T "_law_size" = some ⟨1, 2, bLSize⟩) : ∀ (n : Nat) (k : Kd), k.depth + 1 ≤ n → callN T n "_law_size" [k.enc] h = .ok (.int k.size) h := by
  intro n
  induction n with
  | zero => intro k hk; omega
  | succ n ih =>
    intro k hk
    refine wE_is (call_w L rfl ?_)
    cases k with
    | nm x => simp [bLSize, startR, Kd.enc, Kd.size]
    | ls a =>
      simp only [Kd.depth] at hk
      simp [bLSize, startR, Kd.enc]
      refine map_w (f := fun _ => .int a.size) (fun x hx => by simp at hx; subst hx; simp [ih a (by omega)]) ?_
      simp [biS, bInts, asL, intsOf, Kd.size]
    | pr a b =>
      simp only [Kd.depth] at hk
      simp [bLSize, startR, Kd.enc]
      rw [lcs2 (ih a (by omega)) (ih b (by omega))]
      simp [biS, bInts, asL, intsOf, Kd.size]
    | fn a b =>
      simp only [Kd.depth] at hk
      simp [bLSize, startR, Kd.enc]
      rw [lcs2 (ih a (by omega)) (ih b (by omega))]
      simp [biS, bInts, asL, intsOf, Kd.size]
theorem lsize_at (L : T "_law_size" = some ⟨1, 2, bLSize⟩) {k : Kd} {n : Nat} (hs : k.size ≤ 8) (hn : 9 ≤ n) : callN T n "_law_size" [k.enc] h = .ok (.int k.size) h := lsize_g L n k (by have := Kd.depth_lt k; omega)
theorem tB_ge : ∀ n, 3 ≤ tB n
  | 0 => Nat.le_refl _
  | n + 1 => by have := tB_ge n; simp only [tB]; omega
theorem tW_ge : ∀ n, 20 ≤ tW n
  | 0 => Nat.le_refl _
  | n + 1 => by have := tW_ge n; simp only [tW]; omega
noncomputable def tRest (cl : Str → List D → Hh → Res D) : Fs := zSeq (zIf (yV (xBin eqD (xV 4) (xC (.int 4)))) (zSeq (zSet 8 (xIdx (xLst (xCons (xC (.int 0)) (xCons (xC (.int 1)) (xCons (xC (.int 2)) (xCons (xC (.int 2)) (xCons (xC (.int 3)) (xCons (xC (.int 6)) (xNil)))))))) (xCall 2 (cl "_law_take") (xCons (xV 0) (xCons (xC (.int 6)) (xNil))))))
    (zSeq (zSet 9 (xLcG lcF (iR1 (xCons (xV 8) (xNil))) [12] (gN 12) (yYes) (xIdx (xCall 4 (cl "_law_term") (xCons (xV 0) (xCons (xV 1) (xCons (xV 2) (xCons (xBin subD (xV 3) (xC (.int 1))) (xNil)))))) (xC (.int 0)))))
    (zRet (xTup (xCons (xTup (xCons (xC (.str "row")) (xCons (xV 6) (xCons (xBi .tuple (xCons (xV 9) (xNil))) (xNil))))) (xCons (xTup (xCons (xC (.str "list")) (xCons (xV 6) (xNil)))) (xNil))))))) (zNext))
    (zRet (xTup (xCons (xTup (xCons (xC (.str "as")) (xCons (xV 6) (xCons (xIdx (xCall 4 (cl "_law_term") (xCons (xV 0) (xCons (xV 1) (xCons (xV 2) (xCons (xBin subD (xV 3) (xC (.int 1))) (xNil)))))) (xC (.int 0))) (xNil))))) (xCons (xV 6) (xNil)))))
theorem term_rest (hT : Dr T) {xs : List Str} {cs : List Str} {n dp : Nat} {v : Int} (hn : 1 ≤ n) (h0 : dp ≠ 0) (hrec : ∀ (o2 : O) (Q' : D → Hh → Prop) (X' : Xp), Bg o2 → (∀ d o', Bg o' → Tg (dp - 1) d → Q' d (o' :: r)) → wE (callN T (n + 1) "_law_term" [.ref 0, .lst (xs.map .str), .dct (sE s), .int ((dp : Int) - 1)] (o2 :: r)) Q' X')
    {k : Kd} {o4 : O} (B4 : Bg o4) (g4 : k.good) (s4 : k.size ≤ 3) {R : D → Hh → Prop} {M : Rho → Hh → Prop} (q : ∀ d o', Bg o' → Tg dp d → R d (o' :: r)) : wS (tRest (callN T (n + 1)) [some (.ref 0), some (.lst (xs.map .str)), some (.dct (sE s)), some (.int dp), some (.int v), some (.lst (cs.map .str)), some k.enc, none, none, none, none, none, none] (o4 :: r)) M R X := by
  have htB : tB dp = 6 * tB (dp - 1) + 12 := by obtain ⟨e, rfl⟩ : ∃ e, dp = e + 1 := ⟨dp - 1, by omega⟩; rfl
  have htW : tW dp = 6 * tW (dp - 1) + 60 := by obtain ⟨e, rfl⟩ : ∃ e, dp = e + 1 := ⟨dp - 1, by omega⟩; rfl
  have hw4 : 20 ≤ tW (dp - 1) := tW_ge _
  simp [tRest]
  split
  · refine take_w hT B4 (by decide) (by decide) fun u o5 B5 u0 u1 => ?_
    refine idx_w u0 (by simpa using u1) fun d hd => ?_
    obtain ⟨c, rfl, hc⟩ : ∃ c : Nat, d = .int c ∧ c ≤ 6 := by
      simp only [List.mem_cons, List.mem_nil_iff, or_false] at hd
      rcases hd with rfl | rfl | rfl | rfl | rfl | rfl
      · exact ⟨0, rfl, by omega⟩
      · exact ⟨1, rfl, by omega⟩
      · exact ⟨2, rfl, by omega⟩
      · exact ⟨2, rfl, by omega⟩
      · exact ⟨3, rfl, by omega⟩
      · exact ⟨6, rfl, by omega⟩
    simp
    rw [rngN (by omega)]
    simp
    refine ⟨by omega, ?_⟩
    refine lc_w (I := fun h => ∃ o6, h = o6 :: r ∧ Bg o6) (P := fun d => Th (2 * (dp - 1) + 3) 6 (tB (dp - 1)) (2 * (dp - 1) + 3) (tW (dp - 1)) d) ⟨o5, rfl, B5⟩ ?_ ?_
    · rintro x hx _ ⟨o6, rfl, B6⟩
      simp
      refine hrec o6 _ _ B6 fun d7 o7 B7 h7 => ?_
      obtain ⟨t7, k7, rfl, g7, s7, th7⟩ := h7
      simp
      exact ⟨B7, th7⟩
    · rintro ys _ ⟨o6, rfl, B6⟩ hl hys
      simp at hl
      simp
      have hyl : ys.length ≤ 6 := by omega
      refine q _ o6 B6 ⟨_, .ls k, rfl, g4, by simp only [Kd.size]; omega, (th3 (t := 2 * (dp - 1) + 4) (m := 2 * (dp - 1) + 4) (th_word (x := "row") (by decide +kernel)) (kd_th g4 s4 (by omega)) (Th.tup (Ths.of_all hys hyl) hyl (by omega)) (by omega) (by omega)).mono (by omega) (Nat.le_refl _) (by omega) (by omega) (by omega)⟩
  · try simp
    refine hrec o4 _ _ B4 fun d7 o7 B7 h7 => ?_
    obtain ⟨t7, k7, rfl, g7, s7, th7⟩ := h7
    simp
    exact q _ o7 B7 ⟨_, k, rfl, g4, by omega, (th3 (th_word (x := "as") (by decide +kernel)) (kd_th g4 s4 (by omega)) th7 (by omega) (by omega)).mono (by omega) (Nat.le_refl _) (by omega) (by omega) (by omega)⟩
theorem term_w (hT : Dr T) (ta : T "_law_any_kind" = some ⟨3, 6, bAnyKind⟩) (hk : T "_law_kind" = some ⟨3, 5, bKind⟩) (L : T "_law_size" = some ⟨1, 2, bLSize⟩) (ht : T "_law_term" = some ⟨4, 13, bTerm⟩) {xs : List Str} (N : Nms xs) (S : Sk s) (hs1 : 1 ≤ s.length) (hs2 : s.length ≤ 4) : ∀ (dp : Nat) (n : Nat) (o : O) (Q : D → Hh → Prop) (X : Xp), dp + 12 ≤ n → Bg o →
    (∀ d o', Bg o' → Tg dp d → Q d (o' :: r)) → wE (callN T n "_law_term" [.ref 0, .lst (xs.map .str), .dct (sE s), .int dp] (o :: r)) Q X := by
  intro dp
  induction dp using Nat.strongRecOn with
  | ind dp ih =>
    intro n o Q X hn B q
    obtain ⟨n, rfl⟩ : ∃ i, n = i + 3 := ⟨n - 3, by omega⟩
    refine call_w ht rfl ?_
    have hsz : s.length < 64 := by omega
    have hw2 : 3 ≤ tB dp := tB_ge dp
    have hw3 : 20 ≤ tW dp := tW_ge dp
    simp [bTerm, startR]
    refine take_w hT B (by decide) (by decide) fun v o1 B1 v0 v1 => ?_
    simp [strKeys_S, hsz]
    refine ⟨by omega, ?_⟩
    refine filt_w (p := fun d => match d with | .str x => isF s x | _ => false) (fun d hd => ?_) (fun d hd => by simp) ?_
    · obtain ⟨x, hx, rfl⟩ := List.mem_map.mp hd
      obtain ⟨k, e, m⟩ := srt_look (s := s) hx
      exact cond_at (S.at m).1.1 e rfl rfl
    rw [List.filter_map]
    have hcs : ∀ x ∈ List.filter ((fun d => match d with | D.str x => isF s x | _ => false) ∘ D.str) ((s.map (·.1)).mergeSort sle), x ∈ srt s ∧ isF s x = true := fun x hx => List.mem_filter.mp hx
    have hcl : (List.filter ((fun d => match d with | D.str x => isF s x | _ => false) ∘ D.str) ((s.map (·.1)).mergeSort sle)).length ≤ 1000 := Nat.le_trans (List.length_filter_le _ _) (by simp; omega)
    generalize List.filter ((fun d => match d with | D.str x => isF s x | _ => false) ∘ D.str) ((s.map (·.1)).mergeSort sle) = cs at hcs hcl ⊢
    have hcl' : cs.length ≤ 1000 := hcl
    have hname : ∀ (o2 : O) (x : D) , Bg o2 → x ∈ (srt s).map D.str → ∃ y k, x = .str y ∧ s.lookup y = some k ∧ Q (.tup [.tup [.str "name", .str y], k.enc]) (o2 :: r) := fun o2 x B2 hx => by
      obtain ⟨y, hy, rfl⟩ := List.mem_map.mp hx
      obtain ⟨k, e, m⟩ := srt_look (s := s) hy
      obtain ⟨⟨g, sz⟩, sy, _⟩ := S.at m
      exact ⟨y, k, rfl, e, q _ o2 B2 ⟨_, k, rfl, g, by omega, (th2 (t := 2) (L := 6) (m := 2) (th_word (by decide +kernel)) (th_str sy (by omega)) (by omega) (by omega)).mono (by omega) (by omega) (by omega) (by omega) (by omega)⟩⟩
    have hrec : ∀ (o2 : O) (Q' : D → Hh → Prop) (X' : Xp), dp ≠ 0 → Bg o2 → (∀ d o', Bg o' → Tg (dp - 1) d → Q' d (o' :: r)) → wE (callN T (n + 2) "_law_term" [.ref 0, .lst (xs.map .str), .dct (sE s), .int ((dp : Int) - 1)] (o2 :: r)) Q' X' := fun o2 Q' X' h0 B2 q' => by
      rw [show (dp : Int) - 1 = ((dp - 1 : Nat) : Int) by omega]
      exact ih (dp - 1) (by omega) _ _ _ _ (by omega) B2 q'
    have hone : ∀ (o2 : O), Bg o2 → wE (callN T (n + 2) "_law_one" [D.ref 0, D.lst (List.map D.str (srt s))] (o2 :: r)) (fun x h => ∃ o3 y k, h = o3 :: r ∧ x = .str y ∧ s.lookup y = some k ∧ Q (.tup [.tup [.str "name", .str y], k.enc]) (o3 :: r)) noE := fun o2 B2 =>
      one_w hT B2 (by simp [srt_len]; omega) (by simp [srt_len]; omega) fun x o3 B3 hx => by
        obtain ⟨y, k, e1, e2, e3⟩ := hname o3 x B3 hx
        exact ⟨o3, y, k, rfl, e1, e2, e3⟩
    simp [strKeys_S, hsz]
    split
    · refine wE_mono (hone o1 B1) ?_ (fun _ _ _ z => z.elim)
      rintro _ _ ⟨o3, y, k, rfl, rfl, e2, e3⟩
      simp [idx_dctS, e2]
      exact e3
    rename_i h0
    have h0 : dp ≠ 0 := by omega
    have htB : tB dp = 6 * tB (dp - 1) + 12 := by obtain ⟨e, rfl⟩ : ∃ e, dp = e + 1 := ⟨dp - 1, by omega⟩; rfl
    have htW : tW dp = 6 * tW (dp - 1) + 60 := by obtain ⟨e, rfl⟩ : ∃ e, dp = e + 1 := ⟨dp - 1, by omega⟩; rfl
    have hw4 : 20 ≤ tW (dp - 1) := tW_ge _
    split
    · refine wE_mono (hone o1 B1) ?_ (fun _ _ _ z => z.elim)
      rintro _ _ ⟨o3, y, k, rfl, rfl, e2, e3⟩
      simp [idx_dctS, e2]
      exact e3
    try simp
    split
    · refine hrec o1 _ _ h0 B1 fun d2 o2 B2 h2 => ?_
      obtain ⟨t2, k2, rfl, g2, s2, th2'⟩ := h2
      simp
      refine hrec o2 _ _ h0 B2 fun d3 o3 B3 h3 => ?_
      obtain ⟨t3, k3, rfl, g3, s3, th3'⟩ := h3
      simp [lsize_at L s2 (show 9 ≤ n + 2 by omega), lsize_at L s3 (show 9 ≤ n + 2 by omega)]
      split
      · exact q _ o3 B3 ⟨t2, k2, rfl, g2, s2, th2'.mono (by omega) (Nat.le_refl _) (by omega) (by omega) (by omega)⟩
      · exact q _ o3 B3 ⟨_, .pr k2 k3, rfl, ⟨g2, g3⟩, by simp only [Kd.size]; omega, (th3 (th_word (by decide +kernel)) th2' th3' (by omega) (by omega)).mono (by omega) (Nat.le_refl _) (by omega) (by omega) (by omega)⟩
    have key : ∀ (G A : Prop), G → (v = 3 ∧ cs ≠ [] → A) → (if v = 3 then (if cs = [] then G else A) else G) := fun G A g a => by
      split
      · split
        · exact g
        · exact a ⟨by assumption, by assumption⟩
      · exact g
    have hrest : ∀ (k : Kd) (o4 : O), Bg o4 → k.good → k.size ≤ 3 → wS (tRest (callN T (n + 2)) [some (.ref 0), some (.lst (xs.map .str)), some (.dct (sE s)), some (.int dp), some (.int v), some (.lst (cs.map .str)), some k.enc, none, none, none, none, none, none] (o4 :: r)) (fun _ h' => eC (o :: r) Q .non h') (eC (o :: r) Q) (eX (o :: r) X) := fun k o4 B4 g4 s4 =>
      term_rest hT (by omega) h0 (fun o2 Q' X' B2 q' => hrec o2 Q' X' h0 B2 q') B4 g4 s4 fun d o' B' h' => by
        simp only [eC_bag]
        exact q d o' B' h'
    refine key _ _ ?_ ?_
    · refine take_w hT B1 (by decide) (by decide) fun u o4 B4 u0 u1 => ?_
      simp
      split
      · exact any_kind_w hT ta N (u := 3) (by omega) (by omega) (by omega) B4 fun k o5 B5 g5 s5 => hrest k o5 B5 g5 (by omega)
      · exact kind_w hT hk N _ 3 _ _ _ (by omega) (by omega) (by omega) B4 fun k o5 B5 g5 s5 _ => hrest k o5 B5 g5 (by omega)
    · rintro ⟨c3, hne⟩
      refine one_w hT B1 (by simpa using List.length_pos_iff.mpr hne) (by simpa using hcl) fun x o2 B2 hx => ?_
      obtain ⟨y, hy, rfl⟩ := List.mem_map.mp hx
      obtain ⟨k, e, m⟩ := srt_look (s := s) (hcs y hy).1
      obtain ⟨⟨g, sz⟩, sy, _⟩ := S.at m
      have hf := (hcs y hy).2
      simp only [isF, e] at hf
      cases k with
      | fn a b =>
        simp
        refine hrec o2 _ _ h0 B2 fun d7 o7 B7 h7 => ?_
        obtain ⟨t7, k7, rfl, g7, s7, th7⟩ := h7
        simp [idx_dctS, e, Kd.enc]
        simp only [Kd.size] at sz
        exact q _ o7 B7 ⟨_, b, rfl, g.2, by omega, (th3 (th_word (x := "call") (by decide +kernel)) (th_str sy (by omega)) th7 (by omega) (by omega)).mono (by omega) (Nat.le_refl _) (by omega) (by omega) (by omega)⟩
      | _ => simp at hf
end
end Bx
namespace K90
open PySem PySem.Spec PyProof.Rows L2 Bx
noncomputable def tInn (cl : Str → List D → Hh → Res D) : Fs := (zSeq (zIf (yOr (yNot (yV (xCall 2 (cl "_law_alike") (xCons (xCall 1 (cl "is_term") (xCons (xV 5) (xNil))) (xCons (xV 8) (xNil)))))) (yV (xBin neD (xBi .repr (xCons (xLst (xCons (xV 5) (xCons (xV 4) (xNil)))) (xNil))) (xV 7)))) (zRet (xC (.bl false))) (zNext))
    (zIf (yV (xV 8)) (zSeq (zAsg (gT2 11 12) (xCall 2 (cl "_law_looked") (xCons (xV 4) (xCons (xV 5) (xNil)))))
    (zSeq (zSet 9 (xHand (xCall 2 (cl "kind_of") (xCons (xV 4) (xCons (xV 5) (xNil)))) (rsOf ern sv_raised)))
    (zSeq (zSet 10 (xHand (xCall 2 (cl "places") (xCons (xV 4) (xCons (xV 5) (xNil)))) (rsOf ern sv_raised)))
    (zSeq (zIf (yV (xBin isD (xV 12) (xC .non))) (zIf (yNot (yV (xCall 2 (cl "_law_alike") (xCons (xLst (xCons (xV 9) (xCons (xV 10) (xNil)))) (xCons (xBin mulD (xLst (xCons (xTup (xCons (xC (.str "error")) (xCons (xLst (xCons (xC (.int 0)) (xNil))) (xCons (xLst (xCons (xV 11) (xNil))) (xNil))))) (xNil))) (xC (.int 2))) (xNil)))))) (zRet (xC (.bl false))) (zNext)) (zIf (yNot (yV (xCall 2 (cl "_law_alike") (xCons (xLst (xCons (xV 9) (xCons (xV 10) (xNil)))) (xCons (xLst (xCons (xTup (xCons (xC (.str "told")) (xCons (xV 11) (xNil)))) (xCons (xTup (xCons (xC (.str "told")) (xCons (xV 12) (xNil)))) (xNil)))) (xNil)))))) (zRet (xC (.bl false))) (zExpr (xM mApp (xIdx (xV 10) (xC (.int 1))) (xCons (xC (.str "more")) (xNil))))))
    (zIf (yV (xBin neD (xBi .repr (xCons (xLst (xCons (xV 5) (xCons (xV 4) (xNil)))) (xNil))) (xV 7))) (zRet (xC (.bl false))) (zNext)))))) (zNext)))
noncomputable def tOut (cl : Str → List D → Hh → Res D) : Fs := (zSeq (zSet 3 (xCall 2 (cl "_law_names") (xCons (xV 1) (xCons (xC (.int 3)) (xNil)))))
    (zSeq (zSet 4 (xCall 2 (cl "_law_signature") (xCons (xV 1) (xCons (xV 3) (xNil)))))
    (zSeq (zSet 5 (xIdx (xCall 4 (cl "_law_term") (xCons (xV 1) (xCons (xV 3) (xCons (xV 4) (xCons (xC (.int 3)) (xNil)))))) (xC (.int 0))))
    (zSeq (zFor (iR1 (xCons (xIdx (xLst (xCons (xC (.int 0)) (xCons (xC (.int 0)) (xCons (xC (.int 1)) (xCons (xC (.int 2)) (xNil)))))) (xCall 2 (cl "_law_take") (xCons (xV 1) (xCons (xC (.int 4)) (xNil))))) (xNil))) (gN 6) (zSet 5 (xCall 2 (cl "_law_bent") (xCons (xV 1) (xCons (xV 5) (xNil))))))
    (zSeq (zPar 7 8 (xCons (xBi .repr (xCons (xLst (xCons (xV 5) (xCons (xV 4) (xNil)))) (xNil))) (xCons (xCall 1 (cl "_law_is_term") (xCons (xV 5) (xNil))) (xNil))))
    (zFor (iR1 (xCons (xC (.int 2)) (xNil))) (gN 6) (zSeq (zIf (yOr (yNot (yV (xCall 2 (cl "_law_alike") (xCons (xCall 1 (cl "is_term") (xCons (xV 5) (xNil))) (xCons (xV 8) (xNil)))))) (yV (xBin neD (xBi .repr (xCons (xLst (xCons (xV 5) (xCons (xV 4) (xNil)))) (xNil))) (xV 7)))) (zRet (xC (.bl false))) (zNext))
    (zIf (yV (xV 8)) (zSeq (zAsg (gT2 11 12) (xCall 2 (cl "_law_looked") (xCons (xV 4) (xCons (xV 5) (xNil)))))
    (zSeq (zSet 9 (xHand (xCall 2 (cl "kind_of") (xCons (xV 4) (xCons (xV 5) (xNil)))) (rsOf ern sv_raised)))
    (zSeq (zSet 10 (xHand (xCall 2 (cl "places") (xCons (xV 4) (xCons (xV 5) (xNil)))) (rsOf ern sv_raised)))
    (zSeq (zIf (yV (xBin isD (xV 12) (xC .non))) (zIf (yNot (yV (xCall 2 (cl "_law_alike") (xCons (xLst (xCons (xV 9) (xCons (xV 10) (xNil)))) (xCons (xBin mulD (xLst (xCons (xTup (xCons (xC (.str "error")) (xCons (xLst (xCons (xC (.int 0)) (xNil))) (xCons (xLst (xCons (xV 11) (xNil))) (xNil))))) (xNil))) (xC (.int 2))) (xNil)))))) (zRet (xC (.bl false))) (zNext)) (zIf (yNot (yV (xCall 2 (cl "_law_alike") (xCons (xLst (xCons (xV 9) (xCons (xV 10) (xNil)))) (xCons (xLst (xCons (xTup (xCons (xC (.str "told")) (xCons (xV 11) (xNil)))) (xCons (xTup (xCons (xC (.str "told")) (xCons (xV 12) (xNil)))) (xNil)))) (xNil)))))) (zRet (xC (.bl false))) (zExpr (xM mApp (xIdx (xV 10) (xC (.int 1))) (xCons (xC (.str "more")) (xNil))))))
    (zIf (yV (xBin neD (xBi .repr (xCons (xLst (xCons (xV 5) (xCons (xV 4) (xNil)))) (xNil))) (xV 7))) (zRet (xC (.bl false))) (zNext)))))) (zNext)))))))))
theorem hT : Dr tab := ⟨t__law_take, t__law_one⟩
theorem hN : Nf tab := ⟨t_is_name, t_is_word, t_is_kind⟩
theorem hNL : NLf tab := ⟨t__law_is_name, t__law_is_kind⟩
theorem hTm : Tf tab := { hN with tm := t_is_term }
theorem hTL : TLf tab := { hNL with tm := t__law_is_term }
theorem hP : Pf tab := ⟨t_looked, t_kind_of, t_places⟩
theorem ta : tab "_law_any_kind" = some ⟨3, 6, bAnyKind⟩ := t__law_any_kind
theorem tk : tab "_law_kind" = some ⟨3, 5, bKind⟩ := t__law_kind
theorem tsz : tab "_law_size" = some ⟨1, 2, bLSize⟩ := t__law_size
theorem ttm : tab "_law_term" = some ⟨4, 13, bTerm⟩ := t__law_term
theorem tsg : tab "_law_signature" = some ⟨2, 5, bSignature⟩ := t__law_signature
theorem tod : tab "_law_odd_value" = some ⟨1, 4, bOdd⟩ := t__law_odd_value
theorem tbt : tab "_law_bent" = some ⟨2, 4, bBent⟩ := t__law_bent
theorem tll : tab "_law_looked" = some ⟨2, 8, bLLooked⟩ := t__law_looked
theorem tal : tab "_law_alike" = some ⟨2, 2, bAlike⟩ := t__law_alike
theorem tnm : tab "_law_names" = some ⟨2, 8, bNames⟩ := t__law_names
theorem tbg : tab "_law_bag" = some ⟨1, 2, bBag⟩ := t__law_bag
theorem sv_no (x : Str) (h : Hh) : sv_raised "NoName" [.str x] h = .ok (.tup [.str "error", .lst [.int 0], .lst [.str x]]) h := rfl
section
variable {o : O} {r h : Hh} {X : Xp} {s : List (Str × Kd)} {ρ : Rho}
@[simp ↓] theorem w_Hand {fb : Fn} {ns : List Str} {sv : Str → List D → Hh → Res D} {Q : D → Hh → Prop} : wE (xHand fb (rsOf ns sv) ρ h) Q X = wE (fb ρ h) (fun d h' => Q (.tup [.str "told", d]) h') (fun c ds h' => (ns.contains c && decide (c ≠ "WayError")) = true ∧ wE (sv c ds h') Q X) := by
  unfold xHand
  cases fb ρ h with
  | ok d h1 => simp only [rsOf, wE_ok]
  | exc c ds h1 =>
    simp only [rsOf, wE_exc]
    by_cases c1 : (ns.contains c && decide (c ≠ "WayError")) = true
    · rw [if_pos c1]; exact propext ⟨fun z => ⟨c1, z⟩, fun z => z.2⟩
    · rw [if_neg c1, wE_bad]; exact propext ⟨False.elim, fun z => c1 z.1⟩
  | bad => simp only [rsOf, wE_bad]
theorem loop_i {t : Fg} {b : Fs} {I : Rho → Hh → Prop} {N : Rho → Hh → Prop} {R : D → Hh → Prop} : ∀ {ds : List D} {ρ : Rho} {h : Hh}, (∀ d ∈ ds, ∀ ρ h, I ρ h → ∃ ρ1, t d ρ = some ρ1 ∧ wS (b ρ1 h) I R X) → I ρ h → (∀ ρ h, I ρ h → N ρ h) → wS (loopS t b ds ρ h) N R X
  | [], ρ, h, _, h0, q => .nx (q _ _ h0)
  | d :: ds, ρ, h, hb, h0, q => by
    obtain ⟨ρ1, e, w⟩ := hb d (List.mem_cons_self ..) ρ h h0
    exact loop_w e (wS_mono w (fun ρ2 h2 i2 => loop_i (fun d hd => hb d (List.mem_cons_of_mem _ hd)) i2 q) (fun _ _ z => z) (fun _ _ _ z => z))
theorem names_w {n : Nat} {m : Nat} (hn : 2 ≤ n) (B : Bg o) (h1 : 1 ≤ m) (hm : m ≤ 8) {Q : D → Hh → Prop} (q : ∀ xs o', Bg o' → Nms xs → Q (.lst (xs.map .str)) (o' :: r)) : wE (callN tab n "_law_names" [.ref 0, .int m] (o :: r)) Q X := by
  obtain ⟨j, rfl⟩ : ∃ j, n = j + 2 := ⟨n - 2, by omega⟩
  obtain ⟨xs, o', e, h1, h2, B'⟩ := names_call hT.take tnm (j := j) (r := r) B hm
  exact wE_of e (q xs o' B' ⟨by omega, by omega, h2⟩)
/-- how a thing grows by bends -/
def nB : Nat → Nat
  | 0 => tB 3
  | j + 1 => 2 * nB j + 6
def wB : Nat → Nat
  | 0 => tW 3
  | j + 1 => 2 * wB j + 4901
def Tj (j : Nat) (d : D) : Prop := Th (9 + 2 * j) (6 + j) (nB j) (9 + 27 * j) (wB j) d
theorem nB_mono : ∀ {i j : Nat}, i ≤ j → nB i ≤ nB j := by
  intro i j h
  induction h with
  | refl => exact Nat.le_refl _
  | step _ ih => simp only [nB]; omega
theorem wB_mono : ∀ {i j : Nat}, i ≤ j → wB i ≤ wB j := by
  intro i j h
  induction h with
  | refl => exact Nat.le_refl _
  | step _ ih => simp only [wB]; omega
theorem Tj.mono {i j : Nat} {d : D} (h : Tj i d) (l : i ≤ j) : Tj j d := Th.mono h (by omega) (by omega) (nB_mono l) (by omega) (wB_mono l)
def slots (ns : List Int) (x2 : Option D) (xs : List Str) (s : List (Str × Kd)) (th : D) (x6 : Option D) : Rho := [some (.scr ns), some (.ref 0), x2, some (.lst (xs.map .str)), some (.dct (sE s)), some th, x6, none, none, none, none, none, none]
theorem flat_enc (k : Kd) : flatP k.enc = some k.dat := by
  induction k with
  | nm x => rfl
  | ls a ih => simp only [Kd.enc, flatP, flatPs, ih, Option.map_some, Kd.dat]
  | pr a b iha ihb => simp only [Kd.enc, flatP, flatPs, iha, ihb, Option.map_some, Kd.dat]
  | fn a b iha ihb => simp only [Kd.enc, flatP, flatPs, iha, ihb, Option.map_some, Kd.dat]
def sP (s : List (Str × Kd)) : List (PyData × PyData) := s.map fun p => (.str p.1, p.2.dat)
theorem flatKs_S : ∀ s : List (Str × Kd), flatKs (sE s) = some (sP s)
  | [] => rfl
  | p :: s => by
    have := flatKs_S s
    simp only [sE, sP] at this ⊢
    simp only [List.map_cons, flatKs, flat_enc, this, keyP]
theorem sP_ok : ∀ s : List (Str × Kd), (∀ p ∈ s, (p.2.good ∧ p.2.size ≤ 5) ∧ SS 5 p.1) → PyData.showableKv (sP s) = true ∧ PyData.leavesShortKv 45 (sP s) = true ∧ PyData.depthKv (sP s) ≤ 5 ∧ PyData.weightKv (sP s) ≤ s.length * 60
  | [], _ => ⟨rfl, rfl, Nat.zero_le _, Nat.zero_le _⟩
  | p :: s, h => by
    obtain ⟨⟨g, sz⟩, sx⟩ := h p (List.mem_cons_self ..)
    obtain ⟨h1, h2, h3, h4⟩ := sP_ok s fun q hq => h q (List.mem_cons_of_mem _ hq)
    have q := Kd.pq g (B := 45)
    have l1 : (PyData.str p.1).leavesShort 45 = true := ls_str fun c hc => Nat.lt_of_le_of_lt (sx.sm c hc).2 (by decide)
    have l2 : (PyData.str p.1).weight ≤ 5 := sx.le
    have l3 := q.wt
    have l4 := q.dp
    have l5 := Kd.depth_lt p.2
    simp only [sP] at h1 h2 h3 h4
    refine ⟨?_, ?_, ?_, ?_⟩
    · simp only [sP, List.map_cons, PyData.showableKv, h1, q.sh, PyData.showable, Bool.and_self]
    · simp only [sP, List.map_cons, PyData.leavesShortKv, h2, q.ls, l1, Bool.and_self]
    · simp only [sP, List.map_cons, PyData.depthKv, PyData.depth]
      omega
    · simp only [sP, List.map_cons, PyData.weightKv, List.length_cons]
      omega
theorem sig_da (S : Sk s) (hl : s.length ≤ 4) : Da 45 6 300 (.dct (sE s)) := by
  obtain ⟨h1, h2, h3, h4⟩ := sP_ok s fun p hp => ⟨S.kd p hp, (S.nm p hp).1⟩
  exact ⟨.dict (sP s), by simp only [cv, toP, flatKs_S, Option.map_some], by simpa only [PyData.showable] using h1, by simpa only [PyData.leavesShort] using h2, by simp only [PyData.depth]; omega, by simp only [PyData.weight]; omega⟩
theorem bend_loop {ns : List Int} {x2 : Option D} {xs : List Str} {y : List (Option D)} {N : Rho → Hh → Prop} {R : D → Hh → Prop} : ∀ (l : List D) (j : Nat) (th : D) (o : O) (x6 : Option D), Tj j th → j + l.length ≤ 2 → Bg o → (∀ th' o' x6', Bg o' → Tj 2 th' → N (some (.scr ns) :: some (.ref 0) :: x2 :: some (.lst (xs.map .str)) :: some (.dct (sE s)) :: some th' :: x6' :: y) (o' :: r)) →
    wS (loopS (gN 6) (zSet 5 (xCall 2 (callN tab 59 "_law_bent") (xCons (xV 1) (xCons (xV 5) (xNil))))) l (some (.scr ns) :: some (.ref 0) :: x2 :: some (.lst (xs.map .str)) :: some (.dct (sE s)) :: some th :: x6 :: y) (o :: r)) N R X
  | [], j, th, o, x6, ht, hl, B, q => .nx (q th o x6 B (ht.mono (by simpa using hl)))
  | a :: l, j, th, o, x6, ht, hl, B, q => by
    simp only [List.length_cons] at hl
    refine loop_w rfl ?_
    simp
    refine bent_w hT tod tbt (by omega) (by omega) _ _ _ _ _ _ _ _ _ ht (by omega) B fun d' o' B' h' => ?_
    try simp
    exact bend_loop l (j + 1) d' o' _ (h'.mono (by omega) (by omega) (Nat.le_refl _) (by omega) (Nat.le_refl _)) (by omega) B' q
theorem kept {th : D} (ht : Tj 2 th) (S : Sk s) (hl : s.length ≤ 4) : ∃ st, ∀ h, biS .repr [.lst [th, .dct (sE s)]] h = .ok (.str st) h := by
  have d1 : Da 45 63 (wB 2) th := ht.da
  have d2 : Da 45 63 300 (.dct (sE s)) := (sig_da S hl).mono (by omega) (Nat.le_refl _)
  have e : wB 2 = 42303 := rfl
  exact Da.repr (Da.lst (Das.cons d1 (Das.one d2 (Nat.le_refl _)) (Nat.le_refl _))) (by omega) (by omega) (by rw [e]; decide)
/-- two truths -/
theorem alike_bl (b : Bool) {n : Nat} (hn : 1 ≤ n) : callN tab n "_law_alike" [.bl b, .bl b] h = .ok (.bl true) h := by
  obtain ⟨j, rfl⟩ : ∃ j, n = j + 1 := ⟨n - 1, by omega⟩
  exact alike_same tal (p := .bool b) (n := 5) (m := 0) rfl rfl ⟨⟨rfl, by cases b <;> decide, Nat.le_refl _⟩, rfl⟩ (by omega) (by omega)
/-- a term of a thing, and what is known of it -/
theorem due_tm {th : D} (ht : Tj 2 th) (e : tmB 13 th = true) : ∃ t : Bx.Tm, t.enc = th ∧ t.dep ≤ 13 ∧ t.Good 13 8 ∧ t.num ≤ 4674 := by
  obtain ⟨t, e1, ⟨h1, h2⟩, h3⟩ := Bx.Tm.tm_of (M := 13) (L := 8) 13 th (Nat.le_refl _) e ht.tl
  have e2 : nB 2 = 4674 := rfl
  have h4 : nc th ≤ nB 2 := ht.nc
  exact ⟨t, e1, h1, h2, by omega⟩
theorem Sk.sg (S : Sk s) : Sg 13 s := ⟨fun x k e => by
  have m : (x, k) ∈ s := by
    clear S
    induction s with
    | nil => simp at e
    | cons p s ih =>
      obtain ⟨y, l⟩ := p
      by_cases c : x = y
      · subst c
        simp [List.lookup] at e
        subst e
        simp
      · have c2 : (x == y) = false := by simpa using c
        simp only [List.lookup, c2] at e
        exact List.mem_cons_of_mem _ (ih e)
  obtain ⟨g, sz⟩ : k.good ∧ k.size ≤ 5 := S.kd _ m
  have := Kd.depth_lt k
  exact ⟨g, by omega, by omega⟩⟩
def pd (p : Kd × Kd) : PyData := .tuple [p.1.dat, p.2.dat]
theorem pls (f : Nat → Option PyData) : ∀ ps : List (Kd × Kd), toPs f (ps.map pl) = some (ps.map pd)
  | [] => rfl
  | p :: ps => by
    simp only [List.map_cons, toPs, pl, toP, Kd.cv_enc, pls f ps, Option.map_some, pd]
theorem pds_ok : ∀ {ps : List (Kd × Kd)} {M : Nat}, pok M ps → Pqs 8 (M + 1) (10 * psz ps) (ps.map pd) ∧ PyData.hasDictAll (ps.map pd) = false
  | [], M, _ => ⟨.nil, rfl⟩
  | p :: ps, M, h => by
    obtain ⟨i1, i2⟩ := pds_ok (ps := ps) fun q hq => h q (List.mem_cons_of_mem _ hq)
    obtain ⟨⟨g1, d1⟩, g2, d2⟩ := h p (List.mem_cons_self ..)
    have a := (Kd.pq g1 (B := 8)).mono d1 (Nat.le_refl _)
    have b := (Kd.pq g2 (B := 8)).mono d2 (Nat.le_refl _)
    have s1 := Kd.size_pos p.1
    have s2 := Kd.size_pos p.2
    refine ⟨.cons (.tup (.cons a (.cons b (.nil (w := 0)) (Nat.le_refl _)) (Nat.le_refl _))) i1 ?_, ?_⟩
    · simp only [psz, List.map_cons, List.sum_cons]
      omega
    · simp only [List.map_cons, PyData.hasDictAll, pd, PyData.hasDict, (Kd.dg g1).nd, (Kd.dg g2).nd, i2, Bool.or_self]
def rho (ns : List Int) (x2 : Option D) (xs : List Str) (s : List (Str × Kd)) (th : D) (x6 : Option D) (st : Str) (b : Bool) (x9 x10 x11 x12 : Option D) : Rho := [some (.scr ns), some (.ref 0), x2, some (.lst (xs.map .str)), some (.dct (sE s)), some th, x6, some (.str st), some (.bl b), x9, x10, x11, x12]
def inQ (ns : List Int) (x2 : Option D) (xs : List Str) (s : List (Str × Kd)) (th : D) (st : Str) (b : Bool) (h : Hh) : Rho → Hh → Prop := fun ρ' h' => ∃ x6 x9 x10 x11 x12 y, ρ' = rho ns x2 xs s th x6 st b x9 x10 x11 x12 ∧ h' = h ++ y
theorem told_alike {k : Kd} {ps : List (Kd × Kd)} {N : Nat} (hs : k.size + psz ps ≤ 9 * N) (hN : N ≤ 4674) (g : k.good) (hd : k.depth ≤ 30) (hp : pok 30 ps) : callN tab 59 "_law_alike" [.lst [.tup [.str "told", k.enc], .tup [.str "told", .ref h.length]], .lst [.tup [.str "told", k.enc], .tup [.str "told", .lst (ps.map pl)]]] (h ++ [.lst (ps.map pl)]) = .ok (.bl true) (h ++ [.lst (ps.map pl)]) := by
  obtain ⟨q1, nd1⟩ := pds_ok hp
  have hg : (h ++ [O.lst (ps.map pl)])[h.length]? = some (.lst (ps.map pl)) := by simp
  have w1 : Pq 8 31 4 (.str "told") := ⟨rfl, by decide +kernel, Nat.zero_le _, by decide +kernel⟩
  have qk := (Kd.pq g (B := 8)).mono (show k.depth ≤ 31 by omega) (Nat.le_refl _)
  have q : Pq 8 34 (90 * N + 40) (.list [.tuple [.str "told", k.dat], .tuple [.str "told", .list (ps.map pd)]]) := by
    have a1 : Pq 8 33 (9 * k.size - 1 + 4 + 2) (.tuple [.str "told", k.dat]) := (Pq.tup (.cons w1 (.cons qk (.nil (w := 0)) (Nat.le_refl _)) (Nat.le_refl _))).mono (by omega) (by omega)
    have a2 : Pq 8 33 (10 * psz ps + 4 + 2) (.tuple [.str "told", .list (ps.map pd)]) := (Pq.tup (.cons (w1.mono (show 31 ≤ 32 by omega) (Nat.le_refl _)) (.cons (Pq.lst q1) (.nil (w := 0)) (Nat.le_refl _)) (Nat.le_refl _))).mono (by omega) (by omega)
    exact (Pq.lst (.cons a1 (.cons a2 (.nil (w := 0)) (Nat.le_refl _)) (Nat.le_refl _))).mono (by omega) (by omega)
  have hsh := q.short (by omega)
  refine alike_same tal (j := 58) (p := .list [.tuple [.str "told", k.dat], .tuple [.str "told", .list (ps.map pd)]]) (n := 16000000) (m := 34) ?_ ?_ ⟨⟨q.sh, Nat.le_trans hsh (by omega), q.dp⟩, ?_⟩ (by omega) (by omega)
  · simp only [toD, toP, toPs, Kd.cv_enc, refP, hg, pls, Option.map_some]
  · simp only [toD, toP, toPs, Kd.cv_enc, pls, Option.map_some]
  · simp only [PyData.hasDict, PyData.hasDictAll, (Kd.dg g).nd, nd1, Bool.or_self]
theorem err_alike {x : Str} (sx : SS 8 x) : callN tab 59 "_law_alike" [.lst [.tup [.str "error", .lst [.int 0], .lst [.str x]], .tup [.str "error", .lst [.int 0], .lst [.str x]]], .lst [.tup [.str "error", .lst [.int 0], .lst [.str x]], .tup [.str "error", .lst [.int 0], .lst [.str x]]]] h = .ok (.bl true) h := by
  have w1 : Pq 8 1 5 (.str "error") := ⟨rfl, by decide +kernel, Nat.zero_le _, by decide +kernel⟩
  have w2 : Pq 8 0 0 (.int 0) := ⟨by decide +kernel, by decide +kernel, Nat.zero_le _, by decide +kernel⟩
  have w3 : Pq 8 0 8 (.str x) := ⟨rfl, ls_str fun c hc => Nat.lt_of_le_of_lt (sx.sm c hc).2 (by decide), Nat.zero_le _, sx.le⟩
  have q1 : Pq 8 2 20 (.tuple [.str "error", .list [.int 0], .list [.str x]]) := (Pq.tup (.cons w1 (.cons (Pq.lst (.cons w2 (.nil (w := 0)) (Nat.le_refl _))) (.cons (Pq.lst (.cons w3 (.nil (w := 0)) (Nat.le_refl _))) (.nil (w := 0)) (Nat.le_refl _)) (Nat.le_refl _)) (Nat.le_refl _))).mono (by omega) (by omega)
  have q := Pq.lst (.cons q1 (.cons q1 (.nil (w := 0)) (Nat.le_refl _)) (Nat.le_refl _))
  exact alike_same tal (j := 58) (p := .list [.tuple [.str "error", .list [.int 0], .list [.str x]], .tuple [.str "error", .list [.int 0], .list [.str x]]]) (n := 16000000) (m := 3) rfl rfl ⟨⟨q.sh, Nat.le_trans (q.short (by omega)) (by omega), q.dp⟩, rfl⟩ (by omega) (by omega)
theorem inn_w {ns : List Int} {x2 : Option D} {xs : List Str} {th : D} {x6 x9 x10 x11 x12 : Option D} {st : Str} {b : Bool} {R : D → Hh → Prop} (ht : Tj 2 th) (S : Sk s) (hl : s.length ≤ 4) (hst : ∀ h, biS .repr [.lst [th, .dct (sE s)]] h = .ok (.str st) h) (hb : b = tmB 13 th) :
    wS (tInn (callN tab 59) (rho ns x2 xs s th x6 st b x9 x10 x11 x12) h) (inQ ns x2 xs s th st b h) R X := by
  have e1 : ∀ h, callN tab 59 "is_term" [th] h = .ok (.bl b) h := fun h => by rw [hb]; exact is_term_ok hTm 13 th 59 ht.tr (by omega)
  have e2 := fun h => alike_bl (h := h) b (n := 59) (by omega)
  cases b with
  | false =>
    simp [tInn, rho, e1, e2, hst]
    exact ⟨x6, x9, x10, x11, x12, [], rfl, by simp⟩
  | true =>
    obtain ⟨t, rfl, t1, t2, t3⟩ := due_tm ht hb.symm
    have hc : t.cnt ≤ 1000000 := by have := Bx.Tm.cnt_num t; omega
    simp [tInn, rho, e1, e2, hst, llooked_ok tll 13 t 59 t1 (by omega) hc]
    cases lk : Bx.Tm.look s t with
    | inr x =>
      have sx := look_no t x t2 lk
      simp [lkD]
      refine wE_mono (kind_of_w hP (by omega) hc) (fun d h' z => by obtain ⟨k, ps, e, _⟩ := z; rw [lk] at e; cases e) ?_
      rintro _ _ _ ⟨y, e, rfl, rfl, rfl⟩
      rw [lk] at e
      cases e
      simp [ern, sv_no]
      refine wE_mono (places_w hP (by omega) hc) (fun d h' z => by obtain ⟨k, ps, e, _⟩ := z; rw [lk] at e; cases e) ?_
      rintro _ _ _ ⟨y, e, rfl, rfl, rfl⟩
      rw [lk] at e
      cases e
      simp [ern, sv_no, isD, hst, mulD, asL, err_alike sx]
      exact ⟨x6, _, _, _, _, [], rfl, by simp⟩
    | inl p =>
      obtain ⟨k, ps⟩ := p
      obtain ⟨z1, z2, z3, z4⟩ := look_sz (L := 8) (Sk.sg S) (Nat.le_refl _) t k ps t2 lk
      simp [lkD]
      refine wE_mono (kind_of_w hP (by omega) hc) ?_ (fun c ds h' z => by obtain ⟨k, e, _⟩ := z; rw [lk] at e; cases e)
      rintro _ _ ⟨k', ps', e, rfl, rfl⟩
      rw [lk] at e
      cases e
      simp
      refine wE_mono (places_w hP (by omega) hc) ?_ (fun c ds h' z => by obtain ⟨k, e, _⟩ := z; rw [lk] at e; cases e)
      rintro _ _ ⟨k', ps', e, rfl, rfl⟩
      rw [lk] at e
      cases e
      simp [isD, told_alike z1 t3 z2 (show k.depth ≤ 30 by omega) (pok_mono z4 (show 13 + t.dep ≤ 30 by omega))]
      have hpl := Bx.Tm.look_cnt s t _ _ lk
      have hcn := Bx.Tm.cnt_num t
      simp [asL]
      rw [app_at (xs := ps.map pl) (by simp) (by simp; omega)]
      simp [hst]
      exact ⟨x6, _, _, _, _, [_], rfl, rfl⟩
theorem rng2 : rng1D [.int 2] h = .ok ((List.range 2).map fun (k : Nat) => .int (k : Int)) h := rngN (m := 2) (by omega)
theorem rng12 : rng1D [.int 12] h = .ok ((List.range 12).map fun (k : Nat) => .int (k : Int)) h := rngN (m := 12) (by omega)
def outI (ns : List Int) : Rho → Hh → Prop := fun ρ h => ∃ x2 x3 x4 x5 x6 x7 x8 x9 x10 x11 x12 o r, ρ = [some (.scr ns), some (.ref 0), x2, x3, x4, x5, x6, x7, x8, x9, x10, x11, x12] ∧ h = o :: r ∧ Bg o
theorem out_w {ns : List Int} {x2 x3 x4 x5 x6 x7 x8 x9 x10 x11 x12 : Option D} {R : D → Hh → Prop} (B : Bg o) : wS (tOut (callN tab 59) [some (.scr ns), some (.ref 0), x2, x3, x4, x5, x6, x7, x8, x9, x10, x11, x12] (o :: r)) (outI ns) R X := by
  simp [tOut]
  refine names_w (m := 3) (by omega) B (by omega) (by omega) fun xs o1 B1 N => ?_
  simp
  refine signature_w hT ta tk tsg N (by omega) B1 fun s o2 B2 S s1 s2 => ?_
  simp
  refine term_w hT ta tk tsz ttm N S s1 s2 3 _ _ _ _ (by omega) B2 fun d o3 B3 h3 => ?_
  obtain ⟨th, k, rfl, g, hs, hth⟩ := h3
  simp
  refine take_w hT B3 (by decide) (by decide) fun v o4 B4 v0 v1 => ?_
  refine idx_w v0 (by simpa using v1) fun d hd => ?_
  obtain ⟨c, rfl, hc⟩ : ∃ c : Nat, d = .int c ∧ c ≤ 2 := by
    simp only [List.mem_cons, List.mem_nil_iff, or_false] at hd
    rcases hd with rfl | rfl | rfl | rfl
    · exact ⟨0, rfl, by omega⟩
    · exact ⟨0, rfl, by omega⟩
    · exact ⟨1, rfl, by omega⟩
    · exact ⟨2, rfl, by omega⟩
  simp
  rw [rngN (by omega)]
  simp
  refine bend_loop _ 0 th o4 _ hth (by simpa using hc) B4 fun th' o5 x6' B5 ht => ?_
  obtain ⟨st, hst⟩ := kept ht S s2
  simp [hst, law_is_term_ok hTL 13 th' 59 ht.tr (by omega)]
  rw [rng2]
  simp only [wE_ok]
  refine loop_i (b := tInn (callN tab 59)) (I := fun ρ h => ∃ x6 x9 x10 x11 x12 y, ρ = rho ns x2 xs s th' x6 st (tmB 13 th') x9 x10 x11 x12 ∧ h = o5 :: y) ?_ ⟨x6', x9, x10, x11, x12, r, rfl, rfl⟩ ?_
  · rintro d hd _ _ ⟨y6, y9, y10, y11, y12, y, rfl, rfl⟩
    refine ⟨rho ns x2 xs s th' (some d) st (tmB 13 th') y9 y10 y11 y12, rfl, ?_⟩
    refine wS_mono (inn_w ht S s2 hst rfl) ?_ (fun _ _ z => z) (fun _ _ _ z => z)
    rintro _ _ ⟨z6, z9, z10, z11, z12, z, rfl, rfl⟩
    exact ⟨z6, z9, z10, z11, z12, y ++ z, rfl, rfl⟩
  · rintro _ _ ⟨y6, y9, y10, y11, y12, y, rfl, rfl⟩
    exact ⟨_, _, _, _, _, _, _, _, _, _, _, o5, y, rfl, rfl, B5⟩
theorem law_true (ns : List Int) (hl : ns.length ≤ 63) : ∃ hE, callN tab 60 "law" [.scr ns] [] = .ok (.bl true) hE := by
  obtain ⟨o, e1, B⟩ := bag_call tbg (j := 58) (ns := ns) (by omega)
  have w : wE (callN tab 60 "law" [.scr ns] []) (fun d _ => d = .bl true) noE := by
    refine call_w t_law rfl ?_
    simp [fd_law, b_law, startR, e1]
    rw [rng12]
    simp only [wE_ok]
    refine loop_i (b := tOut (callN tab 59)) (I := outI ns) ?_ ⟨_, _, _, _, _, _, _, _, _, _, _, o, [], rfl, rfl, B⟩ ?_
    · rintro d hd _ _ ⟨y2, y3, y4, y5, y6, y7, y8, y9, y10, y11, y12, o, y, rfl, rfl, B⟩
      exact ⟨[some (.scr ns), some (.ref 0), some d, y3, y4, y5, y6, y7, y8, y9, y10, y11, y12], rfl, out_w B⟩
    · rintro _ _ ⟨y2, y3, y4, y5, y6, y7, y8, y9, y10, y11, y12, o, y, rfl, rfl, B⟩
      simp
      exact (eC_cut (h := []) (x := o :: y) (Q := fun d _ => d = .bl true) (d := .bl true) (.bl true)).mpr rfl
  obtain ⟨d, h, e, rfl⟩ := wE_ex w
  exact ⟨h, e⟩
end
end K90
open PySem PySem.W PyProof.Rows
set_option maxHeartbeats 0 in
theorem PySem.Challenge.cw_unaskedways_k90_terms_and_places_holds : PySem.Challenge.rw_unaskedways_k90_terms_and_places.Holds := by
  w_on; o_law; k_head; (case hw => w_witness2)
  k_fill
  refine Bx.law_walkT (l := PySem.Challenge.rw_unaskedways_k90_terms_and_places) (n := 63) (k := 60) (x := "_law_script") (y := "law") (T := K90.tab) rfl (by decide) rfl ⟨⟨rfl, by decide, by decide⟩, rfl⟩ (by decide +kernel) (fun w h Y => PySem.W.km_in_of Y) ?F K90.law_true
  case F =>
    intro w mg fa h KX N hmg
    refine' K90.all_mk KX N hmg ?G ?h_is_name ?h_is_word ?h_is_kind ?h_is_term ?h_looked ?h_kind_of ?h_places ?h__law_bag ?h__law_take ?h__law_alike ?h__law_one ?h__law_names ?h__law_kind ?h__law_any_kind ?h__law_size ?h__law_odd_value ?h__law_term ?h__law_signature ?h__law_looked ?h__law_is_name ?h__law_is_kind ?h__law_is_term ?h__law_bent ?a ?l ?c ?k ?tb
    case G =>
      intro T
      refine' K90.gf_mk KX N ?z_len ?z_list ?z_tuple ?z_sum ?z_max ?z_min ?z_abs ?z_int ?z_sorted ?z_repr ?z_all ?z_any ?z_isinstance ?z_range ?z_str ?c_LETTERS ?c_WIDTHS ?e_WIDTHS ?f_WIDTHS ?g_WIDTHS ?k_WIDTHS_0 ?k_WIDTHS_1 ?k_WIDTHS_2 ?c_WORDS ?e_WORDS ?f_WORDS ?g_WORDS ?k_WORDS_0 ?k_WORDS_1 ?k_WORDS_2 ?k_WORDS_3 ?k_WORDS_4 ?er ?y_WayError ?x_NoName ?hd
      case z_len => k_is
      case z_list => k_is
      case z_tuple => k_is
      case z_sum => k_is
      case z_max => k_is
      case z_min => k_is
      case z_abs => k_is
      case z_int => k_is
      case z_sorted => k_is
      case z_repr => k_is
      case z_all => k_is
      case z_any => k_is
      case z_isinstance => k_is
      case z_range => k_is
      case z_str => k_is
      case c_LETTERS => k_is
      case c_WIDTHS => k_is
      case e_WIDTHS => k_is
      case f_WIDTHS => rfl
      case g_WIDTHS => rfl
      case k_WIDTHS_0 => k_is
      case k_WIDTHS_1 => k_is
      case k_WIDTHS_2 => k_is
      case c_WORDS => k_is
      case e_WORDS => k_is
      case f_WORDS => rfl
      case g_WORDS => rfl
      case k_WORDS_0 => k_is
      case k_WORDS_1 => k_is
      case k_WORDS_2 => k_is
      case k_WORDS_3 => k_is
      case k_WORDS_4 => k_is
      case er =>
        refine' Bx.erN_mk (Bx.erN_cons KX N (c := "WayError") ?e_WayError (Bx.erN_cons KX N (c := "NoName") ?e_NoName (Bx.erN_nil))) rfl ?eb
        case e_WayError => k_is
        case e_NoName => k_is
        case eb => kernel_rfl
      case y_WayError =>
        refine' Bx.er0_mk KX N ?a_WayError ?q_WayError ?k_WayError
        case a_WayError => k_is
        case q_WayError => first | k_is | kernel_rfl
        case k_WayError => k_is
      case x_NoName =>
        refine' Bx.erC_mk KX N ?a_NoName ?i_NoName ?l_NoName ?cd_NoName ?lc_NoName ?ce_NoName ?oC_NoName ?sa_NoName ?bx_NoName ?ty_NoName ?kC_NoName ?tf1_NoName ?su_NoName ?oq_NoName ?ve_NoName ?mr_NoName ?ni_NoName ?xi_NoName ?fo_NoName ?v2_NoName ?fl_NoName ?hp_NoName ?s1_NoName ?s2_NoName ?s3_NoName ?s4_NoName ?s5_NoName ?s6_NoName ?s7_NoName ?s8_NoName ?ev_NoName ?rf_NoName ?n1_NoName ?n2_NoName ?n3_NoName ?tp_NoName ?bd_NoName
        case a_NoName => k_is
        case i_NoName => k_is
        case l_NoName => k_is
        case cd_NoName => k_is
        case lc_NoName => k_is
        case ce_NoName => k_is
        case oC_NoName => k_is
        case sa_NoName => k_is
        case bx_NoName => k_is
        case ty_NoName => k_is
        case kC_NoName => k_is
        case tf1_NoName => k_is
        case su_NoName => k_is
        case oq_NoName => k_is
        case ve_NoName => k_is
        case mr_NoName => first | k_is | kernel_rfl
        case ni_NoName => first | ks_is | kernel_rfl
        case xi_NoName => kernel_rfl
        case fo_NoName => kernel_rfl
        case v2_NoName => rfl
        case fl_NoName => first | rfl | decide +kernel
        case hp_NoName => rfl
        case s1_NoName => rfl
        case s2_NoName => rfl
        case s3_NoName => rfl
        case s4_NoName => rfl
        case s5_NoName => first | rfl | decide +kernel
        case s6_NoName => rfl
        case s7_NoName => rfl
        case s8_NoName => rfl
        case ev_NoName => exact fun L => ⟨rfl, rfl, rfl, rfl, _, rfl⟩
        case rf_NoName => rfl
        case n1_NoName => decide +kernel
        case n2_NoName => decide +kernel
        case n3_NoName => decide +kernel
        case tp_NoName => first | rfl | decide +kernel
        case bd_NoName => exact fun us hl => match us, hl with | [_, _], _ => rfl
      case hd =>
        refine' K90.ff_mk ?a_hd ?l_hd ?c_hd ?k_hd
        case a_hd => k_is
        case l_hd => k_is
        case c_hd => k_is
        case k_hd => k_is
    case h_is_name =>
      refine' K90.ff_mk ?a_is_name ?l_is_name ?c_is_name ?k_is_name
      case a_is_name => k_is
      case l_is_name => k_is
      case c_is_name => k_is
      case k_is_name => k_is
    case h_is_word =>
      refine' K90.ff_mk ?a_is_word ?l_is_word ?c_is_word ?k_is_word
      case a_is_word => k_is
      case l_is_word => k_is
      case c_is_word => k_is
      case k_is_word => k_is
    case h_is_kind =>
      refine' K90.ff_mk ?a_is_kind ?l_is_kind ?c_is_kind ?k_is_kind
      case a_is_kind => k_is
      case l_is_kind => k_is
      case c_is_kind => k_is
      case k_is_kind => k_is
    case h_is_term =>
      refine' K90.ff_mk ?a_is_term ?l_is_term ?c_is_term ?k_is_term
      case a_is_term => k_is
      case l_is_term => k_is
      case c_is_term => k_is
      case k_is_term => k_is
    case h_looked =>
      refine' K90.ff_mk ?a_looked ?l_looked ?c_looked ?k_looked
      case a_looked => k_is
      case l_looked => k_is
      case c_looked => k_is
      case k_looked => k_is
    case h_kind_of =>
      refine' K90.ff_mk ?a_kind_of ?l_kind_of ?c_kind_of ?k_kind_of
      case a_kind_of => k_is
      case l_kind_of => k_is
      case c_kind_of => k_is
      case k_kind_of => k_is
    case h_places =>
      refine' K90.ff_mk ?a_places ?l_places ?c_places ?k_places
      case a_places => k_is
      case l_places => k_is
      case c_places => k_is
      case k_places => k_is
    case h__law_bag =>
      refine' K90.ff_mk ?a__law_bag ?l__law_bag ?c__law_bag ?k__law_bag
      case a__law_bag => k_is
      case l__law_bag => k_is
      case c__law_bag => k_is
      case k__law_bag => k_is
    case h__law_take =>
      refine' K90.ff_mk ?a__law_take ?l__law_take ?c__law_take ?k__law_take
      case a__law_take => k_is
      case l__law_take => k_is
      case c__law_take => k_is
      case k__law_take => k_is
    case h__law_alike =>
      refine' K90.ff_mk ?a__law_alike ?l__law_alike ?c__law_alike ?k__law_alike
      case a__law_alike => k_is
      case l__law_alike => k_is
      case c__law_alike => k_is
      case k__law_alike => k_is
    case h__law_one =>
      refine' K90.ff_mk ?a__law_one ?l__law_one ?c__law_one ?k__law_one
      case a__law_one => k_is
      case l__law_one => k_is
      case c__law_one => k_is
      case k__law_one => k_is
    case h__law_names =>
      refine' K90.ff_mk ?a__law_names ?l__law_names ?c__law_names ?k__law_names
      case a__law_names => k_is
      case l__law_names => k_is
      case c__law_names => k_is
      case k__law_names => k_is
    case h__law_kind =>
      refine' K90.ff_mk ?a__law_kind ?l__law_kind ?c__law_kind ?k__law_kind
      case a__law_kind => k_is
      case l__law_kind => k_is
      case c__law_kind => k_is
      case k__law_kind => k_is
    case h__law_any_kind =>
      refine' K90.ff_mk ?a__law_any_kind ?l__law_any_kind ?c__law_any_kind ?k__law_any_kind
      case a__law_any_kind => k_is
      case l__law_any_kind => k_is
      case c__law_any_kind => k_is
      case k__law_any_kind => k_is
    case h__law_size =>
      refine' K90.ff_mk ?a__law_size ?l__law_size ?c__law_size ?k__law_size
      case a__law_size => k_is
      case l__law_size => k_is
      case c__law_size => k_is
      case k__law_size => k_is
    case h__law_odd_value =>
      refine' K90.ff_mk ?a__law_odd_value ?l__law_odd_value ?c__law_odd_value ?k__law_odd_value
      case a__law_odd_value => k_is
      case l__law_odd_value => k_is
      case c__law_odd_value => k_is
      case k__law_odd_value => k_is
    case h__law_term =>
      refine' K90.ff_mk ?a__law_term ?l__law_term ?c__law_term ?k__law_term
      case a__law_term => k_is
      case l__law_term => k_is
      case c__law_term => k_is
      case k__law_term => k_is
    case h__law_signature =>
      refine' K90.ff_mk ?a__law_signature ?l__law_signature ?c__law_signature ?k__law_signature
      case a__law_signature => k_is
      case l__law_signature => k_is
      case c__law_signature => k_is
      case k__law_signature => k_is
    case h__law_looked =>
      refine' K90.ff_mk ?a__law_looked ?l__law_looked ?c__law_looked ?k__law_looked
      case a__law_looked => k_is
      case l__law_looked => k_is
      case c__law_looked => k_is
      case k__law_looked => k_is
    case h__law_is_name =>
      refine' K90.ff_mk ?a__law_is_name ?l__law_is_name ?c__law_is_name ?k__law_is_name
      case a__law_is_name => k_is
      case l__law_is_name => k_is
      case c__law_is_name => k_is
      case k__law_is_name => k_is
    case h__law_is_kind =>
      refine' K90.ff_mk ?a__law_is_kind ?l__law_is_kind ?c__law_is_kind ?k__law_is_kind
      case a__law_is_kind => k_is
      case l__law_is_kind => k_is
      case c__law_is_kind => k_is
      case k__law_is_kind => k_is
    case h__law_is_term =>
      refine' K90.ff_mk ?a__law_is_term ?l__law_is_term ?c__law_is_term ?k__law_is_term
      case a__law_is_term => k_is
      case l__law_is_term => k_is
      case c__law_is_term => k_is
      case k__law_is_term => k_is
    case h__law_bent =>
      refine' K90.ff_mk ?a__law_bent ?l__law_bent ?c__law_bent ?k__law_bent
      case a__law_bent => k_is
      case l__law_bent => k_is
      case c__law_bent => k_is
      case k__law_bent => k_is
    case a => k_is
    case l => k_is
    case c => k_is
    case k => k_is
    case tb => kernel_rfl
