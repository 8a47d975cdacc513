import PyProof.Rows.All
import Wide.All
import OpenK.AllK
import Wide.FinOn
import HandS.ForMost
import HandS.IsInst
import HandS.TupAny
import HandS.Wide
import HandS.Flow
import HandS.DictComp
import KE.DataCmp
import KE.DataEq
import KE.DataAny
import KE.DataMinMax
import KE.SortData
import PyProof.ReprRoads
import HandS.HeadHook3
import PyProof.StrLawsRepr
import PySem.Challenge.RW_unaskedways_k11_kinds_of_any_value
set_option Elab.async false
set_option linter.all false
set_option maxRecDepth 100000
set_option autoImplicit false
namespace Ax
open PySem PySem.Spec PyProof.Rows L2

/-- a value: what does not change stands as a tree; what may change by its number -/
inductive D where
  | non
  | bl (b : Bool)
  | int (i : Int)
  | str (x : Str)
  | tup (ds : List D)
  | lst (ds : List D)
  | dct (kds : List (Key × D))
  | obj (c : Str) (fds : List (Str × D))
  | ref (n : Nat)
  | scr (ns : List Int)
  | val (v : V)
  deriving Inhabited

/-- an object that may change -/
inductive O where
  | lst (ds : List D)
  | dct (kds : List (Key × D))
  | ins (c : Str) (fds : List (Str × D))
  | gone
  deriving Inhabited

abbrev Hh := List O
abbrev Rho := List (Option D)

/-- how a step ends -/
inductive Res (α : Type) where
  | ok (a : α) (h : Hh)
  | exc (c : Str) (ds : List D) (h : Hh)
  | bad

namespace Res
variable {α β : Type}
def bind (r : Res α) (f : α → Hh → Res β) : Res β := match r with
  | .ok a h => f a h
  | .exc c ds h => .exc c ds h
  | .bad => .bad
@[simp] theorem bind_ok (a : α) (h : Hh) (f : α → Hh → Res β) : (Res.ok a h).bind f = f a h := rfl
@[simp] theorem bind_exc (c : Str) (ds : List D) (h : Hh) (f : α → Hh → Res β) : (Res.exc c ds h : Res α).bind f = .exc c ds h := rfl
@[simp] theorem bind_bad (f : α → Hh → Res β) : (Res.bad : Res α).bind f = .bad := rfl
end Res

/-- where things stand: m, the addresses of the objects by number; F, the addresses of what no longer changes; P, what is held as it is for a while -/
structure Wd where
  m : List Addr
  F : Addr → Prop
  P : List (Addr × HO)

def Wd.frz (w : Wd) (a : Addr) : Wd := ⟨w.m, fun b => b = a ∨ w.F b, w.P⟩
def Wd.new (w : Wd) (a : Addr) : Wd := ⟨w.m ++ [a], w.F, w.P⟩
def Wd.cut (w : Wd) (n : Nat) : Wd := ⟨w.m.take n, w.F, w.P⟩
def Wd.hold (w : Wd) (a : Addr) (o : HO) : Wd := ⟨w.m, w.F, (a, o) :: w.P⟩

/-- what does not change at all: the written part, the module's names -/
structure Gx where
  K : PySem.W.Frag
  mg : Str → Option Value

/-- the script stands at a: known to its object, or one of the written part's own -/
def ScrAt (mg : Gx) (H : Hp) (a : Addr) (ns : List Int) : Prop := (∃ o : Obj, H a = some (.frz o (.lst (ns.map V.int)))) ∨
  ∃ (o : Obj) (its : Array Value) (n : Nat), mg.K.lookup a = some o ∧ o.cls = .type "list" ∧ o.dict = none ∧ o.data = .seq its n ∧ its.size ≤ sizeLine ∧ Vals (ns.map V.int) its.toList
theorem ScrAt.sq {mg : Gx} {H : Hp} {a : Addr} {ns : List Int} (s : ScrAt mg H a ns) : SqL mg.K H a (ns.map V.int) := by
  rcases s with ⟨o, h⟩ | h
  · exact .inl (.inr ⟨o, h⟩)
  · exact .inr h
section
variable (mg : Gx) (w : Wd) (H : Hp)
mutual
inductive RV : D → V → Prop
  | non : RV .non .non
  | bl (b : Bool) : RV (.bl b) (.bl b)
  | int (i : Int) : RV (.int i) (.int i)
  | str (x : Str) : RV (.str x) (.str x)
  | tup {a : Addr} {vs : List V} {ds : List D} : H a = some (.tup vs) → RVs ds vs → RV (.tup ds) (.ref a)
  | lst {a : Addr} {vs : List V} {ds : List D} : H a = some (.lst vs) → w.F a → RVs ds vs → RV (.lst ds) (.ref a)
  | dct {a : Addr} {kvs : List (Key × V)} {kds : List (Key × D)} : Rd H a (.dK kvs) → w.F a → kvs.map (·.1) = kds.map (·.1) → RVs (kds.map (·.2)) (kvs.map (·.2)) → RV (.dct kds) (.ref a)
  | obj {a C dx : Addr} {c : Str} {fs : List (Str × V)} {fds : List (Str × D)} : H a = some (.ins C dx fs) → w.F a → mg.mg c = some (.ref C) → fs.map (·.1) = fds.map (·.1) → RVs (fds.map (·.2)) (fs.map (·.2)) → RV (.obj c fds) (.ref a)
  | ref {n : Nat} {a : Addr} : w.m[n]? = some a → RV (.ref n) (.ref a)
  | scr {a : Addr} {ns : List Int} : ScrAt mg H a ns → RV (.scr ns) (.ref a)
  | val (v : V) : RV (.val v) v
inductive RVs : List D → List V → Prop
  | nil : RVs [] []
  | cons {d : D} {v : V} {ds : List D} {vs : List V} : RV d v → RVs ds vs → RVs (d :: ds) (v :: vs)
end
end

section
variable {mg : Gx} {w w' w'' : Wd} {H H' H'' : Hp}

theorem RVs.length : ∀ {ds : List D} {vs : List V}, RVs mg w H ds vs → ds.length = vs.length
  | _, _, .nil => rfl
  | _, _, .cons _ t => by rw [List.length_cons, List.length_cons, RVs.length t]
theorem RVs.get : ∀ {ds : List D} {vs : List V} {i : Nat} {d : D}, RVs mg w H ds vs → ds[i]? = some d → ∃ v, vs[i]? = some v ∧ RV mg w H d v
  | _, _, _, _, .nil, e => by simp at e
  | _, _, 0, _, .cons r _, e => by simp at e; subst e; exact ⟨_, rfl, r⟩
  | _, _, i + 1, d, .cons _ t, e => by
    obtain ⟨v, h1, h2⟩ := RVs.get (i := i) (d := d) t (by simpa using e)
    exact ⟨v, by simpa using h1, h2⟩
theorem RVs.getV : ∀ {ds : List D} {vs : List V} {i : Nat} {v : V}, RVs mg w H ds vs → vs[i]? = some v → ∃ d, ds[i]? = some d ∧ RV mg w H d v
  | _, _, _, _, .nil, e => by simp at e
  | _, _, 0, _, .cons r _, e => by simp at e; subst e; exact ⟨_, rfl, r⟩
  | _, _, i + 1, v, .cons _ t, e => by
    obtain ⟨d, h1, h2⟩ := RVs.getV (i := i) (v := v) t (by simpa using e)
    exact ⟨d, by simpa using h1, h2⟩
theorem RVs.append : ∀ {ds es : List D} {vs us : List V}, RVs mg w H ds vs → RVs mg w H es us → RVs mg w H (ds ++ es) (vs ++ us)
  | _, _, _, _, .nil, s => s
  | _, _, _, _, .cons r t, s => .cons r (RVs.append t s)
theorem RVs.take : ∀ {ds : List D} {vs : List V} (n : Nat), RVs mg w H ds vs → RVs mg w H (ds.take n) (vs.take n)
  | _, _, 0, _ => .nil
  | _, _, _ + 1, .nil => .nil
  | _, _, n + 1, .cons r t => .cons r (RVs.take n t)
theorem RVs.drop : ∀ {ds : List D} {vs : List V} (n : Nat), RVs mg w H ds vs → RVs mg w H (ds.drop n) (vs.drop n)
  | _, _, 0, r => r
  | _, _, _ + 1, .nil => .nil
  | _, _, n + 1, .cons _ t => RVs.drop n t
theorem RVs.set : ∀ {ds : List D} {vs : List V} {d : D} {v : V} (i : Nat), RVs mg w H ds vs → RV mg w H d v → RVs mg w H (ds.set i d) (vs.set i v)
  | _, _, _, _, _, .nil, _ => .nil
  | _, _, _, _, 0, .cons _ t, r => .cons r t
  | _, _, _, _, i + 1, .cons q t, r => .cons q (RVs.set i t r)
theorem RVs.reverse : ∀ {ds : List D} {vs : List V}, RVs mg w H ds vs → RVs mg w H ds.reverse vs.reverse
  | _, _, .nil => .nil
  | _, _, .cons r t => by
    rw [List.reverse_cons, List.reverse_cons]
    exact RVs.append (RVs.reverse t) (.cons r .nil)
theorem RVs.one {d : D} {v : V} (r : RV mg w H d v) : RVs mg w H [d] [v] := .cons r .nil

/-- what was known stays -/
structure Lv (w : Wd) (H : Hp) (w' : Wd) (H' : Hp) : Prop where
  frz : ∀ a, w.F a → w'.F a
  rd : ∀ a u, w.F a → Rd H a u → Rd H' a u
  lst : ∀ a xs, w.F a → H a = some (.lst xs) → H' a = some (.lst xs)
  sf : ∀ a o u, H a = some (.frz o u) → H' a = some (.frz o u)
  ins : ∀ a C dx fs, w.F a → H a = some (.ins C dx fs) → H' a = some (.ins C dx fs)
  tup : ∀ a xs, H a = some (.tup xs) → H' a = some (.tup xs)
  ext : ∃ x, w'.m = w.m ++ x
structure Later (w : Wd) (H : Hp) (w' : Wd) (H' : Hp) : Prop extends Lv w H w' H' where
  pr : w'.P = w.P
theorem Later.refl (w : Wd) (H : Hp) : Later w H w H := ⟨⟨fun _ h => h, fun _ _ _ h => h, fun _ _ _ h => h, fun _ _ _ h => h, fun _ _ _ _ _ h => h, fun _ _ h => h, ⟨[], by simp⟩⟩, rfl⟩
theorem Later.trans (a : Later w H w' H') (b : Later w' H' w'' H'') : Later w H w'' H'' := by
  obtain ⟨x, ex⟩ := a.ext
  obtain ⟨y, ey⟩ := b.ext
  exact ⟨⟨fun c h => b.frz c (a.frz c h), fun c u h r => b.rd c u (a.frz c h) (a.rd c u h r), fun c u h r => b.lst c u (a.frz c h) (a.lst c u h r), fun c o u h => b.sf c o u (a.sf c o u h), fun c C dx fs h r => b.ins c C dx fs (a.frz c h) (a.ins c C dx fs h r), fun c xs h => b.tup c xs (a.tup c xs h), ⟨x ++ y, by rw [ey, ex, List.append_assoc]⟩⟩, b.pr.trans a.pr⟩
theorem Lv.at (l : Lv w H w' H') {n : Nat} {a : Addr} (h : w.m[n]? = some a) : w'.m[n]? = some a := by
  obtain ⟨x, e⟩ := l.ext
  rw [e, List.getElem?_append_left (List.getElem?_eq_some_iff.mp h).1]
  exact h
mutual
theorem RV.mono0 (l : Lv w H w' H') : ∀ {d : D} {v : V}, RV mg w H d v → RV mg w' H' d v
  | _, _, .non => .non
  | _, _, .bl b => .bl b
  | _, _, .int i => .int i
  | _, _, .str x => .str x
  | _, _, .tup h t => .tup (l.tup _ _ h) (RVs.mono0 l t)
  | _, _, .lst h f t => .lst (l.lst _ _ f h) (l.frz _ f) (RVs.mono0 l t)
  | _, _, .dct h f e t => .dct (l.rd _ _ f h) (l.frz _ f) e (RVs.mono0 l t)
  | _, _, .obj h f c e t => .obj (l.ins _ _ _ _ f h) (l.frz _ f) c e (RVs.mono0 l t)
  | _, _, .ref h => .ref (l.at h)
  | _, _, .scr h => .scr (h.imp (fun ⟨o, z⟩ => ⟨o, l.sf _ _ _ z⟩) id)
  | _, _, .val v => .val v
theorem RVs.mono0 (l : Lv w H w' H') : ∀ {ds : List D} {vs : List V}, RVs mg w H ds vs → RVs mg w' H' ds vs
  | _, _, .nil => .nil
  | _, _, .cons r t => .cons (RV.mono0 l r) (RVs.mono0 l t)
end
theorem RV.mono (l : Later w H w' H') {d : D} {v : V} (r : RV mg w H d v) : RV mg w' H' d v := r.mono0 l.toLv
theorem RVs.mono (l : Later w H w' H') {ds : List D} {vs : List V} (r : RVs mg w H ds vs) : RVs mg w' H' ds vs := r.mono0 l.toLv
end

/-- an object by number stands at a -/
def OR (mg : Gx) (w : Wd) (H : Hp) (a : Addr) : O → Prop
  | .lst ds => ¬ w.F a ∧ ∃ vs, H a = some (.lst vs) ∧ RVs mg w H ds vs
  | .dct kds => ¬ w.F a ∧ ∃ kvs : List (Key × V), H a = some (.dK kvs) ∧ kvs.map (·.1) = kds.map (·.1) ∧ RVs mg w H (kds.map (·.2)) (kvs.map (·.2))
  | .ins c fds => ¬ w.F a ∧ ∃ (C dx : Addr) (fs : List (Str × V)), H a = some (.ins C dx fs) ∧ mg.mg c = some (.ref C) ∧ fs.map (·.1) = fds.map (·.1) ∧ RVs mg w H (fds.map (·.2)) (fs.map (·.2))
  | .gone => w.F a

structure HR (mg : Gx) (w : Wd) (h : Hh) (H : Hp) : Prop where
  len : w.m.length = h.length
  nd : w.m.Nodup
  fz : ∀ a, w.F a → ∃ u, H a = some u
  ob : ∀ (i : Nat) (o : O) (a : Addr), h[i]? = some o → w.m[i]? = some a → OR mg w H a o
  pr : ∀ p ∈ w.P, H p.1 = some p.2 ∧ ¬ w.F p.1 ∧ p.1 ∉ w.m

/-- the slots -/
def RS (mg : Gx) (w : Wd) (H : Hp) (ρ : Rho) (σ : L2.St) : Prop := ∀ (i : Nat) (d : D), ρ[i]? = some (some d) → ∃ v, σ[i]? = some (some v) ∧ RV mg w H d v

structure SR (mg : Gx) (w : Wd) (ρ : Rho) (h : Hh) (σ : L2.St) (H : Hp) : Prop where
  hr : HR mg w h H
  rs : RS mg w H ρ σ
  ln : ρ.length = σ.length

section
variable {mg : Gx} {w w' w'' : Wd} {H H' H'' : Hp} {h h' : Hh} {ρ : Rho} {σ : L2.St}
theorem RS.mono (l : Later w H w' H') (r : RS mg w H ρ σ) : RS mg w' H' ρ σ := fun i d e => by
  obtain ⟨v, e1, r1⟩ := r i d e
  exact ⟨v, e1, r1.mono l⟩
theorem SR.step (s : SR mg w ρ h σ H) (l : Later w H w' H') (q : HR mg w' h' H') : SR mg w' ρ h' σ H' := ⟨q, s.rs.mono l, s.ln⟩
theorem SR.set (s : SR mg w ρ h σ H) {d : D} {v : V} (r : RV mg w H d v) (i : Nat) : SR mg w (ρ.set i (some d)) h (σ.set i (some v)) H := ⟨s.hr, fun j e hj => by
  by_cases c : i = j
  · subst c
    by_cases hi : i < ρ.length
    · rw [List.getElem?_set_self hi] at hj
      cases hj
      exact ⟨v, List.getElem?_set_self (by rw [← s.ln]; exact hi), r⟩
    · rw [List.getElem?_eq_none (by rw [List.length_set]; omega)] at hj
      cases hj
  · rw [List.getElem?_set_ne c] at hj
    obtain ⟨u, e1, r1⟩ := s.rs j e hj
    exact ⟨u, by rw [List.getElem?_set_ne c]; exact e1, r1⟩, by rw [List.length_set, List.length_set, s.ln]⟩
theorem SR.wipe (s : SR mg w ρ h σ H) (i : Nat) : SR mg w (ρ.set i none) h (σ.set i none) H := ⟨s.hr, fun j e hj => by
  by_cases c : i = j
  · subst c
    by_cases hi : i < ρ.length
    · rw [List.getElem?_set_self hi] at hj
      cases hj
    · rw [List.getElem?_eq_none (by rw [List.length_set]; omega)] at hj
      cases hj
  · rw [List.getElem?_set_ne c] at hj
    obtain ⟨u, e1, r1⟩ := s.rs j e hj
    exact ⟨u, by rw [List.getElem?_set_ne c]; exact e1, r1⟩, by rw [List.length_set, List.length_set, s.ln]⟩

theorem HR.nF (q : HR mg w h H) {p : Addr} (hp : H p = none) : ¬ w.F p := fun z => by
  obtain ⟨u, e⟩ := q.fz p z
  rw [hp] at e
  cases e
theorem OR.some {a : Addr} {o : O} (q : HR mg w h H) (r : OR mg w H a o) : ∃ u, H a = some u := by
  cases o with
  | lst ds => obtain ⟨_, vs, e, _⟩ := r; exact ⟨_, e⟩
  | dct kds => obtain ⟨_, vs, e, _⟩ := r; exact ⟨_, e⟩
  | ins c fds => obtain ⟨_, C, dx, fs, e, _⟩ := r; exact ⟨_, e⟩
  | gone => exact q.fz a r
theorem HR.nm (q : HR mg w h H) {p : Addr} (hp : H p = none) : p ∉ w.m := fun hm => by
  obtain ⟨i, hi, e⟩ := List.getElem_of_mem hm
  have hi' : i < h.length := by rw [← q.len]; exact hi
  obtain ⟨u, e'⟩ := (q.ob i h[i] p (List.getElem?_eq_getElem hi') (by rw [List.getElem?_eq_getElem hi, e])).some q
  rw [hp] at e'
  cases e'
theorem Rd.some {a : Addr} {u : HO} (r : Rd H a u) : ∃ x, H a = some x := by
  rcases r with r | ⟨o, r⟩
  · exact ⟨_, r⟩
  · exact ⟨_, r⟩
theorem Rd.upd {a p : Addr} {u o : HO} (r : Rd H a u) (hne : a ≠ p) : Rd (upd H p o) a u := by
  rcases r with r | ⟨x, r⟩
  · exact .inl (by rw [upd_ne hne]; exact r)
  · exact .inr ⟨x, by rw [upd_ne hne]; exact r⟩
theorem OR.mono0 {a : Addr} {o : O} (l : Lv w H w' H') (hF : w'.F a ↔ w.F a) (hH : H' a = H a ∨ (o = .gone)) (r : OR mg w H a o) : OR mg w' H' a o := by
  cases o with
  | lst ds => obtain ⟨n, vs, e, t⟩ := r; exact ⟨fun z => n (hF.mp z), vs, (hH.resolve_right (fun z => by cases z)).trans e, t.mono0 l⟩
  | dct kds => obtain ⟨n, vs, e, e', t⟩ := r; exact ⟨fun z => n (hF.mp z), vs, (hH.resolve_right (fun z => by cases z)).trans e, e', t.mono0 l⟩
  | ins c fds => obtain ⟨n, C, dx, fs, e, e1, e2, t⟩ := r; exact ⟨fun z => n (hF.mp z), C, dx, fs, (hH.resolve_right (fun z => by cases z)).trans e, e1, e2, t.mono0 l⟩
  | gone => exact hF.mpr r
theorem OR.mono {a : Addr} {o : O} (l : Later w H w' H') (hF : w'.F a ↔ w.F a) (hH : H' a = H a ∨ (o = .gone)) (r : OR mg w H a o) : OR mg w' H' a o := r.mono0 l.toLv hF hH
/-- the heap has a new object that nobody knows by number; it is frozen -/
theorem later_new (q : HR mg w h H) {p : Addr} {o : HO} (hp : H p = none) : Later w H w (upd H p o) :=
  ⟨⟨fun _ z => z, fun a u _ r => Rd.upd r (by obtain ⟨x, e⟩ := Rd.some r; exact ne_of_none e hp), fun a u _ r => by rw [upd_ne (ne_of_none r hp)]; exact r, fun a o u r => by rw [upd_ne (ne_of_none r hp)]; exact r, fun a C dx fs _ r => by rw [upd_ne (ne_of_none r hp)]; exact r, fun a xs r => by rw [upd_ne (ne_of_none r hp)]; exact r, ⟨[], by simp⟩⟩, rfl⟩
theorem hr_new (q : HR mg w h H) {p : Addr} {o : HO} (hp : H p = none) : HR mg w h (upd H p o) :=
  ⟨q.len, q.nd, fun a z => by obtain ⟨u, e⟩ := q.fz a z; exact ⟨u, by rw [upd_ne (ne_of_none e hp)]; exact e⟩, fun i ob a e1 e2 => by
    have r := q.ob i ob a e1 e2
    obtain ⟨u, e⟩ := r.some q
    exact r.mono (later_new q hp) Iff.rfl (.inl (upd_ne (ne_of_none e hp))), fun p hm => by
    obtain ⟨e1, e2, e3⟩ := q.pr p hm
    exact ⟨by rw [upd_ne (ne_of_none e1 hp)]; exact e1, e2, e3⟩⟩
theorem later_frz (q : HR mg w h H) {p : Addr} : Later w H (w.frz p) H :=
  ⟨⟨fun _ z => .inr z, fun _ _ _ r => r, fun _ _ _ r => r, fun _ _ _ r => r, fun _ _ _ _ _ r => r, fun _ _ r => r, ⟨[], by simp [Wd.frz]⟩⟩, rfl⟩
theorem hr_frz (q : HR mg w h H) {p : Addr} (hm : p ∉ w.m) (hs : ∃ u, H p = some u) (hP : ∀ x ∈ w.P, x.1 ≠ p) : HR mg (w.frz p) h H :=
  ⟨q.len, q.nd, fun a z => by rcases z with rfl | z; exact hs; exact q.fz a z, fun i ob a e1 e2 => by
    have hne : a ≠ p := fun z => hm (z ▸ List.mem_of_getElem? e2)
    exact (q.ob i ob a e1 e2).mono (later_frz q) ⟨fun z => z.resolve_left hne, .inr⟩ (.inl rfl), fun x hx => by
    obtain ⟨e1, e2, e3⟩ := q.pr x hx
    exact ⟨e1, fun z => z.elim (hP x hx) e2, e3⟩⟩
theorem HR.np (q : HR mg w h H) {p : Addr} (hp : H p = none) : ∀ x ∈ w.P, x.1 ≠ p := fun x hx => ne_of_none (q.pr x hx).1 hp
/-- a new thing at p, frozen at once -/
theorem later_lay (q : HR mg w h H) {p : Addr} {o : HO} (hp : H p = none) : Later w H (w.frz p) (upd H p o) :=
  (later_new q hp).trans (later_frz (hr_new q hp))
theorem hr_lay (q : HR mg w h H) {p : Addr} {o : HO} (hp : H p = none) : HR mg (w.frz p) h (upd H p o) :=
  hr_frz (hr_new q hp) (q.nm hp) ⟨o, upd_same⟩ (q.np hp)
/-- a new thing at p by the next number -/
theorem later_add (q : HR mg w h H) {p : Addr} {o : HO} (hp : H p = none) : Later w H (w.new p) (upd H p o) := by
  have l := later_new q (o := o) hp
  exact ⟨⟨l.frz, l.rd, l.lst, l.sf, l.ins, l.tup, ⟨[p], rfl⟩⟩, rfl⟩
theorem hr_add (q : HR mg w h H) {p : Addr} {o : HO} {ob : O} (hp : H p = none) (hob : OR mg (w.new p) (upd H p o) p ob) : HR mg (w.new p) (h ++ [ob]) (upd H p o) := by
  have l := later_add q (o := o) hp
  refine ⟨by simp [Wd.new, q.len], ?_, fun a z => ?_, fun i o1 a e1 e2 => ?_, fun x hx => ?_⟩
  · show (w.m ++ [p]).Nodup
    rw [List.nodup_append]
    refine ⟨q.nd, by simp, fun a ha b hb => ?_⟩
    have : b = p := by simpa using hb
    subst this
    exact fun z => q.nm hp (z ▸ ha)
  · obtain ⟨u, e⟩ := q.fz a z
    exact ⟨u, by rw [upd_ne (ne_of_none e hp)]; exact e⟩
  · by_cases hi : i < h.length
    · rw [List.getElem?_append_left hi] at e1
      have e2' : w.m[i]? = some a := by
        have e2 : (w.m ++ [p])[i]? = some a := e2
        rw [List.getElem?_append_left (by rw [q.len]; exact hi)] at e2
        exact e2
      have r := q.ob i o1 a e1 e2'
      obtain ⟨u, e⟩ := r.some q
      exact r.mono l Iff.rfl (.inl (upd_ne (ne_of_none e hp)))
    · have hi' : i = h.length := by
        have := (List.getElem?_eq_some_iff.mp e1).1
        simp at this
        omega
      subst hi'
      rw [List.getElem?_append_right (Nat.le_refl _)] at e1
      simp at e1
      have e2 : (w.m ++ [p])[h.length]? = some a := e2
      rw [← q.len, List.getElem?_append_right (Nat.le_refl _)] at e2
      simp at e2
      subst e1 e2
      exact hob
  · obtain ⟨e1, e2, e3⟩ := q.pr x hx
    refine ⟨by rw [upd_ne (ne_of_none e1 hp)]; exact e1, e2, fun z => ?_⟩
    rcases List.mem_append.mp (show x.1 ∈ w.m ++ [p] from z) with z | z
    · exact e3 z
    · exact ne_of_none e1 hp (by simpa using z)
/-- the object number n changes -/
theorem later_put (q : HR mg w h H) {n : Nat} {a : Addr} {ho : HO} {o o' : O} (hn : h[n]? = some o) (ha : w.m[n]? = some a) (hF : ¬ w.F a) (hm : Mut (H a)) : Later w H w (upd H a ho) := by
  refine ⟨⟨fun _ z => z, fun b u f r => Rd.upd r (fun z => hF (z ▸ f)), fun b u f r => by rw [upd_ne (show b ≠ a from fun z => hF (z ▸ f))]; exact r, fun b o u r => by rw [upd_ne (fun z => by subst z; rw [r] at hm; exact hm)]; exact r, fun b C dx fs f r => by rw [upd_ne (show b ≠ a from fun z => hF (z ▸ f))]; exact r, fun b xs r => ?_, ⟨[], by simp⟩⟩, rfl⟩
  rw [upd_ne (fun z => by subst z; rw [r] at hm; exact hm)]
  exact r
theorem hr_put (q : HR mg w h H) {n : Nat} {a : Addr} {ho : HO} {o o' : O} (hn : h[n]? = some o) (ha : w.m[n]? = some a) (hF : ¬ w.F a) (hm : Mut (H a)) (hob : OR mg w (upd H a ho) a o') : HR mg w (h.set n o') (upd H a ho) := by
  have l := later_put (o' := o') (ho := ho) q hn ha hF hm
  refine ⟨by rw [List.length_set]; exact q.len, q.nd, fun b z => ?_, fun i o1 b e1 e2 => ?_, fun x hx => ?_⟩
  · obtain ⟨u, e⟩ := q.fz b z
    exact ⟨u, by rw [upd_ne (show b ≠ a from fun y => hF (y ▸ z))]; exact e⟩
  · by_cases hi : n = i
    · subst hi
      rw [ha] at e2
      cases e2
      rw [List.getElem?_set_self (List.getElem?_eq_some_iff.mp hn).1] at e1
      cases e1
      exact hob
    · rw [List.getElem?_set_ne hi] at e1
      have hne : b ≠ a := fun z => by
        subst z
        obtain ⟨h1, e1'⟩ := List.getElem?_eq_some_iff.mp ha
        obtain ⟨h2, e2'⟩ := List.getElem?_eq_some_iff.mp e2
        exact hi ((List.getElem_inj q.nd).mp (e1'.trans e2'.symm))
      exact (q.ob i o1 b e1 e2).mono l Iff.rfl (.inl (upd_ne hne))
  · obtain ⟨e1, e2, e3⟩ := q.pr x hx
    exact ⟨by rw [upd_ne (show x.1 ≠ a from fun z => e3 (z ▸ List.mem_of_getElem? ha))]; exact e1, e2, e3⟩
/-- the object number n is frozen -/
theorem hr_gone (q : HR mg w h H) {n : Nat} {a : Addr} {o : O} (hn : h[n]? = some o) (ha : w.m[n]? = some a) : HR mg (w.frz a) (h.set n .gone) H := by
  refine ⟨by rw [List.length_set]; exact q.len, q.nd, fun b z => ?_, fun i o1 b e1 e2 => ?_, fun x hx => ?_⟩
  · rcases z with rfl | z
    · exact (q.ob n o b hn ha).some q
    · exact q.fz b z
  · by_cases hi : n = i
    · subst hi
      rw [List.getElem?_set_self (List.getElem?_eq_some_iff.mp hn).1] at e1
      have e2' : w.m[n]? = some b := e2
      rw [ha] at e2'
      cases e1
      cases e2'
      exact .inl rfl
    · rw [List.getElem?_set_ne hi] at e1
      have hne : b ≠ a := fun z => by
        subst z
        obtain ⟨h1, e1'⟩ := List.getElem?_eq_some_iff.mp ha
        obtain ⟨h2, e2'⟩ := List.getElem?_eq_some_iff.mp (show w.m[i]? = some b from e2)
        exact hi ((List.getElem_inj q.nd).mp (e1'.trans e2'.symm))
      exact (q.ob i o1 b e1 e2).mono (later_frz q) ⟨fun z => z.resolve_left hne, .inr⟩ (.inl rfl)
  · obtain ⟨e1, e2, e3⟩ := q.pr x hx
    exact ⟨e1, fun z => z.elim (fun y => e3 (y ▸ List.mem_of_getElem? ha)) e2, e3⟩
/-- what is held does not matter to values -/
theorem lv_of (hm : w'.m = w.m) (hF : ∀ a, w.F a → w'.F a) : Lv w H w' H := ⟨hF, fun _ _ _ r => r, fun _ _ _ r => r, fun _ _ _ r => r, fun _ _ _ _ _ r => r, fun _ _ r => r, ⟨[], by simp [hm]⟩⟩
theorem hr_P (q : HR mg w h H) (hm : w'.m = w.m) (hF : w'.F = w.F) (hP : ∀ p ∈ w'.P, H p.1 = some p.2 ∧ ¬ w.F p.1 ∧ p.1 ∉ w.m) : HR mg w' h H :=
  ⟨by rw [hm]; exact q.len, by rw [hm]; exact q.nd, fun a z => q.fz a (by rw [hF] at z; exact z), fun i o a e1 e2 => by
    rw [hm] at e2
    exact (q.ob i o a e1 e2).mono0 (lv_of hm fun a z => by rw [hF]; exact z) (by rw [hF]) (.inl rfl), fun p hp => by rw [hm, hF]; exact hP p hp⟩
/-- a new thing is held -/
theorem hr_hold (q : HR mg w h H) {p : Addr} {o : HO} (hp : H p = none) : HR mg (w.hold p o) h (upd H p o) :=
  hr_P (hr_new (o := o) q hp) rfl rfl fun x hx => by
    rcases List.mem_cons.mp (show x ∈ (p, o) :: w.P from hx) with e | hx
    · subst e
      exact ⟨upd_same, fun z => q.nF hp z, fun z => q.nm hp z⟩
    · exact (hr_new (o := o) q hp).pr x hx
/-- what is held is changed -/
theorem hr_rehold {p : Addr} {o : HO} (q : HR mg (w.hold p o) h H) (hmu : Mut (H p)) (hne : ∀ x ∈ w.P, x.1 ≠ p) (o' : HO) : HR mg (w.hold p o') h (upd H p o') ∧ Lv w H w (upd H p o') := by
  obtain ⟨e1, e2, e3⟩ := q.pr (p, o) (List.mem_cons_self ..)
  have e2 : ¬ w.F p := e2
  have e3 : p ∉ w.m := e3
  have l : Lv w H w (upd H p o') := ⟨fun _ z => z, fun b u f r => Rd.upd r (fun z => e2 (z ▸ f)), fun b u f r => by rw [upd_ne (show b ≠ p from fun z => e2 (z ▸ f))]; exact r,
    fun b o u r => by rw [upd_ne (fun z => by subst z; rw [r] at hmu; exact hmu)]; exact r, fun b C dx fs f r => by rw [upd_ne (show b ≠ p from fun z => e2 (z ▸ f))]; exact r,
    fun b xs r => by rw [upd_ne (fun z => by subst z; rw [r] at hmu; exact hmu)]; exact r, ⟨[], by simp⟩⟩
  refine ⟨⟨q.len, q.nd, fun b z => ?_, fun i o1 b x1 x2 => ?_, fun x hx => ?_⟩, l⟩
  · obtain ⟨u, e⟩ := q.fz b z
    exact ⟨u, by rw [upd_ne (show b ≠ p from fun y => e2 (y ▸ z))]; exact e⟩
  · have hb : b ≠ p := fun z => e3 (z ▸ List.mem_of_getElem? (show w.m[i]? = some b from x2))
    have r : OR mg w H b o1 := OR.mono0 (w := w.hold p o) (w' := w) (lv_of rfl fun _ z => z) Iff.rfl (.inl rfl) (q.ob i o1 b x1 x2)
    exact OR.mono0 (w := w) (w' := w.hold p o') (lv_of rfl fun _ z => z) Iff.rfl (.inl rfl) (r.mono0 l Iff.rfl (.inl (upd_ne hb)))
  · rcases List.mem_cons.mp (show x ∈ (p, o') :: w.P from hx) with z | hx
    · subst z
      exact ⟨upd_same, e2, e3⟩
    · obtain ⟨k1, k2, k3⟩ := q.pr x (List.mem_cons_of_mem _ hx)
      exact ⟨by rw [upd_ne (hne x hx)]; exact k1, k2, k3⟩
/-- .. and let go -/
theorem hr_let {p : Addr} {o : HO} (q : HR mg (w.hold p o) h H) : HR mg w h H := hr_P q rfl rfl fun x hx => q.pr x (List.mem_cons_of_mem _ hx)
end
end Ax
namespace Ax
open PySem PySem.Spec PyProof.Rows L2

/-- an exception of the class named c with the fields ds -/
def XR (g : Gx) (w : Wd) (H : Hp) (c : Str) (ds : List D) (C : Addr) (d : Option Addr) : Prop :=
  g.mg c = some (.ref C) ∧ ((ds = [] ∧ d = none) ∨ ∃ a fs, d = some a ∧ H a = some (.xd fs) ∧ RVs g w H ds (fs.map (·.2)))

def OKg {α β : Type} (g : Gx) (R : Wd → Hp → α → β → Prop) (w : Wd) (H : Hp) (E : XK) (Q : β → Hp → Prop) : Res α → Prop
  | .ok a h => ∀ w' H' b, Later w H w' H' → HR g w' h H' → R w' H' a b → Q b H'
  | .exc c ds h => ∀ w' H' C d, Later w H w' H' → HR g w' h H' → XR g w' H' c ds C d → E (.ref C) d H'
  | .bad => False

section
variable {α β α' β' : Type} {g : Gx} {R : Wd → Hp → α → β → Prop} {R' : Wd → Hp → α' → β' → Prop} {w w' : Wd} {H H' : Hp} {E : XK} {Q Q' : β → Hp → Prop} {r : Res α}
theorem OKg.mono (l : Later w H w' H') (o : OKg g R w H E Q r) : OKg g R w' H' E Q r := by
  cases r with
  | ok a h => exact fun w2 H2 b l2 => o w2 H2 b (l.trans l2)
  | exc c ds h => exact fun w2 H2 C d l2 => o w2 H2 C d (l.trans l2)
  | bad => exact o
theorem OKg.imp (o : OKg g R w H E Q r) (hq : ∀ b H', Q b H' → Q' b H') : OKg g R w H E Q' r := by
  cases r with
  | ok a h => exact fun w2 H2 b l2 hr rv => hq b H2 (o w2 H2 b l2 hr rv)
  | exc c ds h => exact o
  | bad => exact o
theorem OKg.bind {f : α → Hh → Res α'} {Q2 : β' → Hp → Prop} (o : OKg g R' w H E Q2 (r.bind f)) :
    OKg g R w H E (fun b H1 => ∃ w1 a h1, Later w H w1 H1 ∧ HR g w1 h1 H1 ∧ R w1 H1 a b ∧ OKg g R' w1 H1 E Q2 (f a h1)) r := by
  cases r with
  | ok a h => exact fun w2 H2 b l2 hr rv => ⟨w2, a, h, l2, hr, rv, OKg.mono l2 o⟩
  | exc c ds h => exact o
  | bad => exact o
end

section
variable (g : Gx) (E : XK)
abbrev RB : Wd → Hp → Bool → Bool → Prop := fun _ _ a b => a = b
def tI (f : Rho → Hh → Res D) : TE := fun σ H Q => ∃ w ρ h, SR g w ρ h σ H ∧ OKg g (RV g) w H E Q (f ρ h)
def tT (f : Rho → Hh → Res Bool) : TT := fun σ H Q => ∃ w ρ h, SR g w ρ h σ H ∧ OKg g RB w H E Q (f ρ h)
def tL (f : Rho → Hh → Res (List D)) : TA := fun σ H Q => ∃ w ρ h, SR g w ρ h σ H ∧ OKg g (RVs g) w H E Q (f ρ h)
def rD (f : D → D → Hh → Res D) : R2 := fun x y H Q => ∃ w h a b, HR g w h H ∧ RV g w H a x ∧ RV g w H b y ∧ OKg g (RV g) w H E Q (f a b h)
def rU1 (f : D → Hh → Res D) : V → Hp → VK → Prop := fun x H Q => ∃ w h a, HR g w h H ∧ RV g w H a x ∧ OKg g (RV g) w H E Q (f a h)
def rC (f : List D → Hh → Res D) : List V → Hp → VK → Prop := fun xs H Q => ∃ w h ds, HR g w h H ∧ RVs g w H ds xs ∧ OKg g (RV g) w H E Q (f ds h)
def rM (f : D → List D → Hh → Res D) : V → List V → Hp → VK → Prop := fun x xs H Q => ∃ w h a ds, HR g w h H ∧ RV g w H a x ∧ RVs g w H ds xs ∧ OKg g (RV g) w H E Q (f a ds h)
end

section
variable {g : Gx} {E : XK} {X : Cx} {w : Wd} {H : Hp} {h : Hh} {Q : VK}
theorem OKg.keep {a : D} {x : V} (o : OKg g (RV g) w H E Q (.ok a h)) (hr : HR g w h H) (rv : RV g w H a x) : Q x H := o w H x (Later.refl w H) hr rv
theorem OKg.tup {ds : List D} {vs : List V} (o : OKg g (RV g) w H E Q (.ok (.tup ds) h)) (hr : HR g w h H) (rv : RVs g w H ds vs) : ∀ p, H p = none → Q (.ref p) (upd H p (.tup vs)) := fun p hp =>
  o w _ (.ref p) (later_new hr hp) (hr_new hr hp) (.tup upd_same (rv.mono (later_new hr hp)))
theorem OKg.lst {ds : List D} {vs : List V} (o : OKg g (RV g) w H E Q (.ok (.lst ds) h)) (hr : HR g w h H) (rv : RVs g w H ds vs) : ∀ p, H p = none → Q (.ref p) (upd H p (.lst vs)) := fun p hp =>
  o (w.frz p) _ (.ref p) (later_lay hr hp) (hr_lay hr hp) (.lst upd_same (.inl rfl) (rv.mono (later_lay hr hp)))
theorem OKg.dct {kds : List (Key × D)} {kvs : List (Key × V)} (o : OKg g (RV g) w H E Q (.ok (.dct kds) h)) (hr : HR g w h H) (ek : kvs.map (·.1) = kds.map (·.1)) (rv : RVs g w H (kds.map (·.2)) (kvs.map (·.2))) : ∀ p, H p = none → Q (.ref p) (upd H p (.dK kvs)) := fun p hp =>
  o (w.frz p) _ (.ref p) (later_lay hr hp) (hr_lay hr hp) (.dct (.inl upd_same) (.inl rfl) ek (rv.mono (later_lay hr hp)))
theorem OKg.nlst {ds : List D} {vs : List V} (o : OKg g (RV g) w H E Q (.ok (.ref h.length) (h ++ [.lst ds]))) (hr : HR g w h H) (rv : RVs g w H ds vs) : ∀ p, H p = none → Q (.ref p) (upd H p (.lst vs)) := fun p hp =>
  o (w.new p) _ (.ref p) (later_add hr hp) (hr_add hr hp ⟨fun z => hr.nF hp z, vs, upd_same, rv.mono (later_add hr hp)⟩) (.ref (by show (w.m ++ [p])[h.length]? = some p; rw [← hr.len]; simp))
theorem OKg.ndct {kds : List (Key × D)} {kvs : List (Key × V)} (o : OKg g (RV g) w H E Q (.ok (.ref h.length) (h ++ [.dct kds]))) (hr : HR g w h H) (ek : kvs.map (·.1) = kds.map (·.1)) (rv : RVs g w H (kds.map (·.2)) (kvs.map (·.2))) : ∀ p, H p = none → Q (.ref p) (upd H p (.dK kvs)) := fun p hp =>
  o (w.new p) _ (.ref p) (later_add hr hp) (hr_add hr hp ⟨fun z => hr.nF hp z, kvs, upd_same, ek, rv.mono (later_add hr hp)⟩) (.ref (by show (w.m ++ [p])[h.length]? = some p; rw [← hr.len]; simp))
/-- the list number n changes -/
theorem OKg.put {n : Nat} {ds ds' : List D} {a : D} {x : V} (o : OKg g (RV g) w H E Q (.ok a (h.set n (.lst ds')))) (hr : HR g w h H) (hn : h[n]? = some (.lst ds)) {p : Addr} (hp : w.m[n]? = some p) {vs' : List V}
    (rv : RVs g w H ds' vs') (rx : RV g w H a x) : Q x (upd H p (.lst vs')) := by
  obtain ⟨nF, vs, e, _⟩ := hr.ob n _ p hn hp
  have mu : Mut (H p) := by rw [e]; trivial
  have l := later_put (o' := .lst ds') (ho := .lst vs') hr hn hp nF mu
  exact o w _ x l (hr_put hr hn hp nF mu ⟨nF, vs', upd_same, rv.mono l⟩) (rx.mono l)
theorem OKg.putD {n : Nat} {kds kds' : List (Key × D)} {a : D} {x : V} (o : OKg g (RV g) w H E Q (.ok a (h.set n (.dct kds')))) (hr : HR g w h H) (hn : h[n]? = some (.dct kds)) {p : Addr} (hp : w.m[n]? = some p) {kvs' : List (Key × V)}
    (ek : kvs'.map (·.1) = kds'.map (·.1)) (rv : RVs g w H (kds'.map (·.2)) (kvs'.map (·.2))) (rx : RV g w H a x) : Q x (upd H p (.dK kvs')) := by
  obtain ⟨nF, vs, e, _⟩ := hr.ob n _ p hn hp
  have mu : Mut (H p) := by rw [e]; trivial
  have l := later_put (o' := .dct kds') (ho := .dK kvs') hr hn hp nF mu
  exact o w _ x l (hr_put hr hn hp nF mu ⟨nF, kvs', upd_same, ek, rv.mono l⟩) (rx.mono l)

/-- the items of a list -/
def asL (h : Hh) : D → Option (List D)
  | .lst ds => some ds
  | .ref n => match h[n]? with | some (.lst ds) => some ds | _ => none
  | _ => none
theorem asL_ok {d : D} {x : V} {ds : List D} (e : asL h d = some ds) (hr : HR g w h H) (r : RV g w H d x) : ∃ a vs, x = .ref a ∧ H a = some (.lst vs) ∧ RVs g w H ds vs := by
  cases r with
  | lst h1 _ t => simp [asL] at e; subst e; exact ⟨_, _, rfl, h1, t⟩
  | @ref n a h1 =>
    simp only [asL] at e
    split at e
    · rename_i e2
      cases e
      obtain ⟨_, vs, e3, t⟩ := hr.ob n _ a e2 h1
      exact ⟨a, vs, rfl, e3, t⟩
    · cases e
  | _ => simp [asL] at e
/-- the items of a list or a tuple -/
def asS (h : Hh) : D → Option (List D)
  | .tup ds => some ds
  | d => asL h d
theorem asS_ok {K : PySem.W.Frag} {d : D} {x : V} {ds : List D} (e : asS h d = some ds) (hr : HR g w h H) (r : RV g w H d x) : ∃ a vs, x = .ref a ∧ (SqL K H a vs ∨ SqT K H a vs) ∧ RVs g w H ds vs := by
  cases d with
  | tup xs =>
    cases r with
    | tup h1 t => simp [asS] at e; subst e; exact ⟨_, _, rfl, .inr (.inl (.inl h1)), t⟩
  | _ =>
    simp only [asS] at e
    obtain ⟨a, vs, e1, e2, t⟩ := asL_ok e hr r
    exact ⟨a, vs, e1, .inl (.inl (.inl e2)), t⟩
theorem rv_tup {ds : List D} {x : V} (r : RV g w H (.tup ds) x) : ∃ a vs, x = .ref a ∧ H a = some (.tup vs) ∧ RVs g w H ds vs := by
  cases r with
  | tup h1 t => exact ⟨_, _, rfl, h1, t⟩
theorem rv_int {i : Int} {x : V} (r : RV g w H (.int i) x) : x = .int i := by cases r; rfl
theorem rv_str {i : Str} {x : V} (r : RV g w H (.str i) x) : x = .str i := by cases r; rfl
theorem rv_bl {i : Bool} {x : V} (r : RV g w H (.bl i) x) : x = .bl i := by cases r; rfl
theorem rv_non {x : V} (r : RV g w H .non x) : x = .non := by cases r; rfl

theorem opr_of {f : Value → Value → Sem Value} {fd : D → D → Hh → Res D}
    (hh : ∀ (w : Wd) (H : Hp) (h : Hh) (a b : D) (x y : V) (Q : VK), HR g w h H → RV g w H a x → RV g w H b y → OKg g (RV g) w H E Q (fd a b h) → ∃ r : R2, OpR X f r ∧ r x y H Q) : OpR X f (rD g E fd) := by
  intro pins s σ H x y v u Q I rx ry ⟨w, h, a, b, hr, ra, rb, o⟩
  obtain ⟨r, hop, q⟩ := hh w H h a b x y Q hr ra rb o
  exact hop pins s σ H x y v u Q I rx ry q

def sz (n : Nat) : Bool := decide (n ≤ sizeLine)
theorem sz_le {n : Nat} (e : sz n = true) : n ≤ sizeLine := of_decide_eq_true e

/-- a + b -/
def addD (a b : D) (h : Hh) : Res D := match a, b with
  | .int i, .int j => .ok (.int (i + j)) h
  | .str i, .str j => if sz (i.length + j.length) then .ok (.str (i ++ j)) h else .bad
  | .tup xs, .tup ys => if sz (xs.length + ys.length) then .ok (.tup (xs ++ ys)) h else .bad
  | a, b => match asL h a, asL h b with
    | some xs, some ys => if sz (xs.length + ys.length) then .ok (.lst (xs ++ ys)) h else .bad
    | _, _ => .bad
theorem add_ok : OpR X (binaryOp .Add) (rD g E addD) := opr_of fun w H h a b x y Q hr ra rb o => by
  unfold addD at o
  split at o
  · cases ra; cases rb
    exact ⟨_, op_add, _, _, rfl, rfl, o.keep hr (.int _)⟩
  · cases ra; cases rb
    split at o
    · exact ⟨_, op_add_str, _, _, rfl, rfl, sz_le ‹_›, o.keep hr (.str _)⟩
    · exact o.elim
  · obtain ⟨p, us, rfl, hp, tu⟩ := rv_tup ra
    obtain ⟨q, vs, rfl, hq, tv⟩ := rv_tup rb
    split at o
    · rename_i hz
      rw [tu.length, tv.length] at hz
      refine ⟨_, op_catA, _, _, _, _, rfl, rfl, .inl (.inl hp), .inl (.inl hq), sz_le hz, fun e => ?_, fun _ e => ?_, fun _ _ => o.tup hr (tu.append tv)⟩
      · subst e
        cases tu
        exact o.keep hr rb
      · subst e
        cases tv
        rw [List.append_nil] at o
        exact o.keep hr ra
    · exact o.elim
  · split at o
    · rename_i e1 e2
      obtain ⟨p, us, rfl, hp, tu⟩ := asL_ok e1 hr ra
      obtain ⟨q, vs, rfl, hq, tv⟩ := asL_ok e2 hr rb
      split at o
      · rename_i hz
        rw [tu.length, tv.length] at hz
        exact ⟨_, op_cat, _, _, _, _, rfl, rfl, hp, hq, sz_le hz, o.lst hr (tu.append tv)⟩
      · exact o.elim
    · exact o.elim
/-- a - b -/
def subD (a b : D) (h : Hh) : Res D := match a, b with
  | .int i, .int j => .ok (.int (i - j)) h
  | _, _ => .bad
theorem sub_ok : OpR X (binaryOp .Sub) (rD g E subD) := opr_of fun w H h a b x y Q hr ra rb o => by
  unfold subD at o
  split at o
  · cases ra; cases rb
    exact ⟨_, op_sub, _, _, rfl, rfl, o.keep hr (.int _)⟩
  · exact o.elim
def small64 (i : Int) : Bool := decide (-(2 ^ 64) < i) && decide (i < 2 ^ 64)
/-- a * b -/
def mulD (a b : D) (h : Hh) : Res D := match a, b with
  | .int i, .int j => if small64 i || small64 j then .ok (.int (i * j)) h else .bad
  | a, .int k => match asL h a with
    | some xs => if decide (-(2 ^ 63) ≤ k) && decide (k < 2 ^ 63) && sz (xs.length * k.toNat) then .ok (.lst (List.replicate k.toNat xs).flatten) h else .bad
    | _ => .bad
  | _, _ => .bad
theorem RVs.rep {ds : List D} {vs : List V} (r : RVs g w H ds vs) : ∀ n : Nat, RVs g w H (List.replicate n ds).flatten (List.replicate n vs).flatten
  | 0 => .nil
  | n + 1 => by
    rw [List.replicate_succ, List.replicate_succ, List.flatten_cons, List.flatten_cons]
    exact r.append (RVs.rep r n)
theorem mul_ok : OpR X (binaryOp .Mult) (rD g E mulD) := opr_of fun w H h a b x y Q hr ra rb o => by
  unfold mulD at o
  split at o
  · cases ra; cases rb
    split at o
    · rename_i hz
      refine ⟨_, op_mul, _, _, rfl, rfl, ?_, o.keep hr (.int _)⟩
      simp only [small64, Bool.or_eq_true, Bool.and_eq_true, decide_eq_true_eq] at hz
      exact hz
    · exact o.elim
  · cases rb
    split at o
    · rename_i e1
      obtain ⟨p, us, rfl, hp, tu⟩ := asL_ok e1 hr ra
      split at o
      · rename_i hz
        simp only [Bool.and_eq_true, decide_eq_true_eq] at hz
        obtain ⟨⟨h1, h2⟩, h3⟩ := hz
        rw [tu.length] at h3
        exact ⟨_, op_rep, _, _, _, rfl, rfl, hp, h1, h2, sz_le h3, o.lst hr (tu.rep _)⟩
      · exact o.elim
    · exact o.elim
  · exact o.elim
/-- a % b, a // b, a ** b -/
def modD (a b : D) (h : Hh) : Res D := match a, b with
  | .int i, .int j => if decide (0 < j) then .ok (.int (i % j)) h else .bad
  | _, _ => .bad
theorem mod_ok : OpR X (binaryOp .Mod) (rD g E modD) := opr_of fun w H h a b x y Q hr ra rb o => by
  unfold modD at o
  split at o
  · cases ra; cases rb
    split at o
    · rename_i hz
      exact ⟨_, op_mod, _, _, rfl, rfl, of_decide_eq_true hz, o.keep hr (.int _)⟩
    · exact o.elim
  · exact o.elim
def fdivD (a b : D) (h : Hh) : Res D := match a, b with
  | .int i, .int j => if decide (0 < j) && decide (j < 1073741824) then .ok (.int (i / j)) h else .bad
  | _, _ => .bad
theorem fdiv_ok : OpR X (binaryOp .FloorDiv) (rD g E fdivD) := opr_of fun w H h a b x y Q hr ra rb o => by
  unfold fdivD at o
  split at o
  · cases ra; cases rb
    split at o
    · rename_i hz
      simp only [Bool.and_eq_true, decide_eq_true_eq] at hz
      exact ⟨_, op_fdiv, _, _, rfl, rfl, hz, o.keep hr (.int _)⟩
    · exact o.elim
  · exact o.elim
def powD (a b : D) (h : Hh) : Res D := match a, b with
  | .int i, .int j => if decide (0 ≤ j) && decide (j ≤ 1000000) && decide (i.natAbs < 2 ^ 64) then .ok (.int (i ^ j.toNat)) h else .bad
  | _, _ => .bad
theorem pow_ok : OpR X (binaryOp .Pow) (rD g E powD) := opr_of fun w H h a b x y Q hr ra rb o => by
  unfold powD at o
  split at o
  · cases ra; cases rb
    split at o
    · rename_i hz
      simp only [Bool.and_eq_true, decide_eq_true_eq] at hz
      obtain ⟨⟨h1, h2⟩, h3⟩ := hz
      exact ⟨_, op_pow, _, _, rfl, rfl, ⟨h1, h2, h3⟩, o.keep hr (.int _)⟩
    · exact o.elim
  · exact o.elim
end
end Ax
namespace Ax
open PySem PySem.Spec PyProof.Rows L2

/-- what a context must bring -/
structure XO (g : Gx) (X : Cx) : Prop where
  K : X.K = g.K
  mg : X.mg = g.mg
  calm : X.calm = true
  nd : X.N.Nodup
  un : X.A.units + 200 < cLine
  gd : X.A.guards = some []

mutual
def toP (f : Nat → Option PyData) : D → Option PyData
  | .non => some .none
  | .bl b => some (.bool b)
  | .int i => some (.int i)
  | .str x => some (.str x)
  | .tup ds => (toPs f ds).map .tuple
  | .lst ds => (toPs f ds).map .list
  | .ref n => f n
  | .dct kds => match kds with | [] => some (.dict []) | _ => none
  | .obj _ _ => none
  | .scr _ => none
  | .val _ => none
def toPs (f : Nat → Option PyData) : List D → Option (List PyData)
  | [] => some []
  | d :: ds => match toP f d, toPs f ds with | some p, some ps => some (p :: ps) | _, _ => none
end
def refP (h : Hh) : Nat → Nat → Option PyData
  | 0, _ => none
  | k + 1, n => match h[n]? with | some (.lst ds) => (toPs (refP h k) ds).map .list | _ => none
def toD (h : Hh) (d : D) : Option PyData := toP (refP h 4) d
def toDs (h : Hh) (ds : List D) : Option (List PyData) := toPs (refP h 4) ds

mutual
/-- no list within -/
def noL : PyData → Bool
  | .list _ => false
  | .tuple xs => noLs xs
  | _ => true
def noLs : List PyData → Bool
  | [] => true
  | x :: xs => noL x && noLs xs
end
section
variable {g : Gx} {w : Wd} {H : Hp} {h : Hh} {P : Program} {wo : World} {hp : Heap}
theorem lst_at {a : Addr} {vs : List V} (hok : HOk P wo H hp) (e : H a = some (.lst vs)) : ∃ its n, Vals vs its ∧ hp.get? a = some { cls := .type "list", data := .seq its.toArray n } ∧ vs.length ≤ sizeLine := by
  obtain ⟨z, its, n, r, q⟩ := hok a _ e
  exact ⟨its, n, r, q, z⟩
mutual
theorem toP_reads {f : Nat → Option PyData} (hok : HOk P wo H hp) (hf : ∀ n q a, f n = some q → w.m[n]? = some a → ∃ as, Reads hp (.ref a) q as ∧ noL q = false) :
    ∀ {d : D} {p : PyData} {v : V} {u : Value}, toP f d = some p → RV g w H d v → RelV v u → ∃ as, Reads hp u p as ∧ (noL p = true → sysModules ∉ as)
  | .non, p, v, u, e, r, q => by cases r; cases e; cases q; exact ⟨_, .none, fun _ => by simp⟩
  | .bl b, p, v, u, e, r, q => by cases r; cases e; cases q; exact ⟨_, .bool b, fun _ => by simp⟩
  | .int i, p, v, u, e, r, q => by cases r; cases e; obtain ⟨t, rfl⟩ := q; exact ⟨_, .int i t, fun _ => by simp⟩
  | .str x, p, v, u, e, r, q => by cases r; cases e; obtain ⟨t, rfl⟩ := q; exact ⟨_, .str x t, fun _ => by simp⟩
  | .tup ds, p, v, u, e, r, q => by
    cases r with
    | tup h1 t =>
      simp only [toP, Option.map_eq_some_iff] at e
      obtain ⟨ps, e1, rfl⟩ := e
      cases q
      obtain ⟨z, its, rv, o, h2, h3, n, h4⟩ := hok _ _ h1
      obtain ⟨as, rs, hn⟩ := toPs_reads hok hf e1 t rv
      exact ⟨_, .tuple h2 h3 h4 (by simpa using rs), fun z => hn (by simpa [noL] using z)⟩
  | .lst ds, p, v, u, e, r, q => by
    cases r with
    | lst h1 _ t =>
      simp only [toP, Option.map_eq_some_iff] at e
      obtain ⟨ps, e1, rfl⟩ := e
      cases q
      obtain ⟨z, its, n, rv, h2⟩ := hok _ _ h1
      obtain ⟨as, rs, hn⟩ := toPs_reads hok hf e1 t rv
      exact ⟨_, .list h2 rfl rfl (by simpa using rs), fun z => by simp [noL] at z⟩
  | .dct kds, p, v, u, e, r, q => by
    cases r with
    | @dct a kvs _ h1 _ e1 t =>
      cases kds with
      | nil =>
        simp only [toP] at e
        cases e
        have e2 : kvs = [] := by simpa using e1
        subst e2
        cases q
        obtain ⟨z, hs, vs, kv, o, es, ep, h2, h3, h4, h5⟩ := h1.ok hok
        cases kv
        have h6 : es.toList = [] := by
          have h7 := h5.2.1
          cases es with | mk l => cases h7; rfl
        refine ⟨a :: [] ++ [], .dict (kvs := []) h2 h3.1 h4 (by rw [h6]; exact .nil) (by rw [h6]; exact .nil), fun _ z => ?_⟩
        have z' : sysModules = a := by simpa using z
        rw [← z'] at hs
        simp at hs
      | cons x y => simp [toP] at e
  | .ref n, p, v, u, e, r, q => by
    cases r with
    | ref h1 =>
      cases q
      simp only [toP] at e
      obtain ⟨as, x, y⟩ := hf n p _ e h1
      exact ⟨as, x, fun z => by rw [y] at z; cases z⟩
  | .obj _ _, p, v, u, e, r, q => by simp [toP] at e
  | .scr _, p, v, u, e, r, q => by simp [toP] at e
  | .val _, p, v, u, e, r, q => by simp [toP] at e
theorem toPs_reads {f : Nat → Option PyData} (hok : HOk P wo H hp) (hf : ∀ n q a, f n = some q → w.m[n]? = some a → ∃ as, Reads hp (.ref a) q as ∧ noL q = false) :
    ∀ {ds : List D} {ps : List PyData} {vs : List V} {us : List Value}, toPs f ds = some ps → RVs g w H ds vs → Vals vs us → ∃ as, ReadsAll hp us ps as ∧ (noLs ps = true → sysModules ∉ as)
  | [], ps, vs, us, e, r, q => by simp only [toPs] at e; cases e; cases r; cases q; exact ⟨_, .nil, fun _ => by simp⟩
  | d :: ds, ps, vs, us, e, r, q => by
    simp only [toPs] at e
    split at e
    · rename_i e1 e2
      cases e
      cases r with
      | cons r1 r2 =>
        cases q with
        | cons q1 q2 =>
          obtain ⟨as, x, n1⟩ := toP_reads hok hf e1 r1 q1
          obtain ⟨bs, y, n2⟩ := toPs_reads hok hf e2 r2 q2
          refine ⟨_, .cons x y, fun z => ?_⟩
          simp only [noLs, Bool.and_eq_true] at z
          rw [List.mem_append]
          exact fun h => h.elim (n1 z.1) (n2 z.2)
    · cases e
end
theorem refP_reads (hok : HOk P wo H hp) (hr : HR g w h H) : ∀ (k n : Nat) (q : PyData) (a : Addr), refP h k n = some q → w.m[n]? = some a → ∃ as, Reads hp (.ref a) q as ∧ noL q = false
  | 0, _, _, _, e, _ => by simp [refP] at e
  | k + 1, n, q, a, e, ea => by
    simp only [refP] at e
    split at e
    · rename_i e1
      simp only [Option.map_eq_some_iff] at e
      obtain ⟨ps, e2, rfl⟩ := e
      obtain ⟨_, vs, e3, t⟩ := hr.ob n _ a e1 ea
      obtain ⟨z, its, n, rv, h2⟩ := hok _ _ e3
      obtain ⟨as, rs, _⟩ := toPs_reads hok (refP_reads hok hr k) e2 t rv
      exact ⟨_, .list h2 rfl rfl (by simpa using rs), by simp [noL]⟩
    · cases e
theorem toD_reads' (hok : HOk P wo H hp) (hr : HR g w h H) {d : D} {p : PyData} {v : V} {u : Value} (e : toD h d = some p) (r : RV g w H d v) (q : RelV v u) : ∃ as, Reads hp u p as ∧ (noL p = true → sysModules ∉ as) :=
  toP_reads hok (refP_reads hok hr 4) e r q
theorem toD_reads (hok : HOk P wo H hp) (hr : HR g w h H) {d : D} {p : PyData} {v : V} {u : Value} (e : toD h d = some p) (r : RV g w H d v) (q : RelV v u) : ∃ as, Reads hp u p as := by
  obtain ⟨as, x, _⟩ := toD_reads' hok hr e r q
  exact ⟨as, x⟩
theorem toDs_reads (hok : HOk P wo H hp) (hr : HR g w h H) {ds : List D} {ps : List PyData} {vs : List V} {us : List Value} (e : toDs h ds = some ps) (r : RVs g w H ds vs) (q : Vals vs us) : ∃ as, ReadsAll hp us ps as := by
  obtain ⟨as, x, _⟩ := toPs_reads hok (refP_reads hok hr 4) e r q
  exact ⟨as, x⟩
end

/-- data that may be compared -/
def dOk (p : PyData) : Bool := p.plain && decide (p.depth ≤ 150)

section
variable {g : Gx} {E : XK} {X : Cx} {w : Wd} {H : Hp} {h : Hh} {Q : VK}
theorem fin_b {pins : List (Addr × Obj)} {σ : L2.St} {s : Shared} {b : Bool} (I : Inv X pins σ H s) (hr : HR g w h H) (o : OKg g (RV g) w H E Q (.ok (.bl b) h)) : EP X pins σ Q (.bool b) s := ⟨.bl b, H, I, rfl, o.keep hr (.bl b)⟩
/-- two lists of different lengths -/
def difL (a b : D) (h : Hh) : Bool := match asL h a, asL h b with
  | some xs, some ys => decide (xs.length ≠ ys.length)
  | _, _ => false
/-- a == b -/
def eqD (a b : D) (h : Hh) : Res D := if difL a b h then .ok (.bl false) h else match toD h a, toD h b with
  | some p, some q => if dOk p && dOk q then .ok (.bl (PyData.eqv p q)) h else .bad
  | _, _ => .bad
def neD (a b : D) (h : Hh) : Res D := if difL a b h then .ok (.bl true) h else match toD h a, toD h b with
  | some p, some q => if dOk p && dOk q then .ok (.bl (!PyData.eqv p q)) h else .bad
  | _, _ => .bad
theorem dep {u a b : Nat} (h : u + 200 < cLine) (ha : a ≤ 150) : u + min a b < cLine := by
  have := Nat.min_le_left a b
  omega
theorem difL_at {pins : List (Addr × Obj)} {σ : L2.St} {s : Shared} {a b : D} {x y : V} {v u : Value} (I : Inv X pins σ H s) (e : difL a b h = true) (hr : HR g w h H) (ra : RV g w H a x) (rb : RV g w H b y) (rx : RelV x v) (ry : RelV y u) :
    ∃ l l' its its', v = .ref l ∧ u = .ref l' ∧ s.heap.IsList l its ∧ s.heap.IsList l' its' ∧ (its.size != its'.size) = true := by
  unfold difL at e
  split at e
  · rename_i xs ys e1 e2
    obtain ⟨l, vs, rfl, q1, t1⟩ := asL_ok e1 hr ra
    obtain ⟨l', vs', rfl, q2, t2⟩ := asL_ok e2 hr rb
    cases rx
    cases ry
    obtain ⟨its, n, r1, g1, _⟩ := lst_at I.hok q1
    obtain ⟨its', n', r2, g2, _⟩ := lst_at I.hok q2
    refine ⟨l, l', its.toArray, its'.toArray, rfl, rfl, ⟨_, g1, rfl, _, rfl⟩, ⟨_, g2, rfl, _, rfl⟩, ?_⟩
    have z1 := t1.length
    have z2 := t2.length
    have z3 := r1.length
    have z4 := r2.length
    simp only [decide_eq_true_eq] at e
    simp only [List.size_toArray, bne_iff_ne, ne_eq]
    omega
  · cases e
theorem eq_ok (xo : XO g X) : OpR X (compareOp .Eq) (rD g E eqD) := by
  intro pins s σ H x y v u Q I rx ry ⟨w, h, a, b, hr, ra, rb, o⟩
  unfold eqD at o
  split at o
  · rename_i hd
    obtain ⟨l, l', its, its', rfl, rfl, i1, i2, i3⟩ := difL_at I hd hr ra rb rx ry
    exact SeqAt.RcAt.lists_lengths i1 i2 i3 (by have := xo.un; omega) _ _ _ _ (fin_b I hr o)
  split at o
  · rename_i p q e1 e2
    split at o
    · rename_i hz
      simp only [dOk, Bool.and_eq_true, decide_eq_true_eq] at hz
      obtain ⟨as, r1⟩ := toD_reads I.hok hr e1 ra rx
      obtain ⟨bs, r2⟩ := toD_reads I.hok hr e2 rb ry
      exact SeqAt.eq_plain r1 r2 hz.1.1 hz.2.1 (dep xo.un hz.1.2) (fin_b I hr o)
    · exact o.elim
  · exact o.elim
theorem ne_ok (xo : XO g X) : OpR X (compareOp .NotEq) (rD g E neD) := by
  intro pins s σ H x y v u Q I rx ry ⟨w, h, a, b, hr, ra, rb, o⟩
  unfold neD at o
  split at o
  · rename_i hd
    obtain ⟨l, l', its, its', rfl, rfl, i1, i2, i3⟩ := difL_at I hd hr ra rb rx ry
    exact SeqAt.RcNeAt.lists_lengths i1 i2 i3 (by have := xo.un; omega) _ _ _ _ (fin_b I hr o)
  split at o
  · rename_i p q e1 e2
    split at o
    · rename_i hz
      simp only [dOk, Bool.and_eq_true, decide_eq_true_eq] at hz
      obtain ⟨as, r1⟩ := toD_reads I.hok hr e1 ra rx
      obtain ⟨bs, r2⟩ := toD_reads I.hok hr e2 rb ry
      exact SeqAt.ne_plain r1 r2 hz.1.1 hz.2.1 (dep xo.un hz.1.2) (fin_b I hr o)
    · exact o.elim
  · exact o.elim
/-- order -/
def isNone : PyData → Bool
  | .none => true
  | _ => false
theorem isNone_ne {p : PyData} (h : isNone p = false) : p ≠ .none := fun e => by subst e; cases h
def cmpD (f : PyData → PyData → Bool) (a b : D) (h : Hh) : Res D := match toD h a, toD h b with
  | some p, some q => if PySem.W.alike p q && !isNone p && decide (p.depth ≤ 150) then .ok (.bl (f p q)) h else .bad
  | _, _ => .bad
theorem cmp_ok (xo : XO g X) {op : CmpOp} {f : PyData → PyData → Bool}
    (rule : ∀ (s : Shared) (a b : Value) (da db : PyData) (as bs : List Addr) (Q : Value → Shared → Prop), Reads s.heap a da as → Reads s.heap b db bs → PySem.W.alike da db = true → da ≠ .none → X.A.units + min da.depth db.depth < cLine →
      Q (.bool (f da db)) s → wpAny (model X.prog X.w) X.A (compareOp op a b) Q X.xe s) : OpR X (compareOp op) (rD g E (cmpD f)) := by
  intro pins s σ H x y v u Q I rx ry ⟨w, h, a, b, hr, ra, rb, o⟩
  unfold cmpD at o
  split at o
  · rename_i p q e1 e2
    split at o
    · rename_i hz
      simp only [Bool.and_eq_true, decide_eq_true_eq, Bool.not_eq_true'] at hz
      obtain ⟨as, r1⟩ := toD_reads I.hok hr e1 ra rx
      obtain ⟨bs, r2⟩ := toD_reads I.hok hr e2 rb ry
      exact rule s v u p q as bs _ r1 r2 hz.1.1 (isNone_ne hz.1.2) (dep xo.un hz.2) (fin_b I hr o)
    · exact o.elim
  · exact o.elim
def ltD := cmpD PySem.W.dataLt
def leD := cmpD fun p q => !PySem.W.dataLt q p
def gtD := cmpD fun p q => PySem.W.dataLt q p
def geD := cmpD fun p q => !PySem.W.dataLt p q
theorem lt_ok (xo : XO g X) : OpR X (compareOp .Lt) (rD g E ltD) := cmp_ok xo fun _ _ _ _ _ _ _ _ r1 r2 h1 h2 h3 q => PySem.W.lt_data r1 r2 h1 h2 h3 q
theorem le_ok (xo : XO g X) : OpR X (compareOp .LtE) (rD g E leD) := cmp_ok xo fun _ _ _ _ _ _ _ _ r1 r2 h1 h2 h3 q => PySem.W.le_data r1 r2 h1 h2 h3 q
theorem gt_ok (xo : XO g X) : OpR X (compareOp .Gt) (rD g E gtD) := cmp_ok xo fun _ _ _ _ _ _ _ _ r1 r2 h1 h2 h3 q => PySem.W.gt_data r1 r2 h1 h2 h3 q
theorem ge_ok (xo : XO g X) : OpR X (compareOp .GtE) (rD g E geD) := cmp_ok xo fun _ _ _ _ _ _ _ _ r1 r2 h1 h2 h3 q => PySem.W.ge_data r1 r2 h1 h2 h3 q
/-- is None -/
def isD (a b : D) (h : Hh) : Res D := match a, b with
  | .val _, _ => .bad
  | .non, .non => .ok (.bl true) h
  | _, .non => .ok (.bl false) h
  | _, _ => .bad
def isnD (a b : D) (h : Hh) : Res D := match a, b with
  | .val _, _ => .bad
  | .non, .non => .ok (.bl false) h
  | _, .non => .ok (.bl true) h
  | _, _ => .bad
theorem rv_none {a : D} {x : V} (r : RV g w H a x) (hv : ∀ v, a ≠ .val v) (hn : a ≠ .non) : x ≠ .non := by
  cases r <;> first | (intro z; cases z; done) | exact absurd rfl hn | exact absurd rfl (hv _)
theorem is_ok : OpR X (compareOp .Is) (rD g E isD) := opr_of fun w H h a b x y Q hr ra rb o => by
  unfold isD at o
  split at o
  · exact o.elim
  · cases ra; cases rb
    exact ⟨_, op_isN, rfl, by simpa using o.keep hr (.bl true)⟩
  · rename_i h1 h2
    cases rb
    have hx := rv_none ra (fun v z => h1 v z) (fun z => h2 z)
    exact ⟨_, op_isN, rfl, by rw [decide_eq_false hx]; exact o.keep hr (.bl false)⟩
  · exact o.elim
theorem isn_ok : OpR X (compareOp .IsNot) (rD g E isnD) := opr_of fun w H h a b x y Q hr ra rb o => by
  unfold isnD at o
  split at o
  · exact o.elim
  · cases ra; cases rb
    exact ⟨_, op_notN, rfl, by simpa using o.keep hr (.bl false)⟩
  · rename_i h1 h2
    cases rb
    have hx := rv_none ra (fun v z => h1 v z) (fun z => h2 z)
    exact ⟨_, op_notN, rfl, by rw [decide_eq_false hx]; exact o.keep hr (.bl true)⟩
  · exact o.elim
end
end Ax
namespace Ax
open PySem PySem.Spec PyProof.Rows L2

def toK : D → Option Key
  | .int i => some (.inl i)
  | .str x => some (.inr x)
  | _ => none
def ofK : Key → D
  | .inl i => .int i
  | .inr x => .str x
def dfind (kds : List (Key × D)) (k : Key) : Option D := (kds.find? fun p => decide (p.1 = k)).map (·.2)
def dput (kds : List (Key × D)) (k : Key) (d : D) : List (Key × D) :=
  if (kds.any fun p => decide (p.1 = k)) = true then kds.map (fun p => if p.1 = k then (p.1, d) else p) else kds ++ [(k, d)]
/-- the entries of a dict -/
def asD (h : Hh) : D → Option (List (Key × D))
  | .dct kds => some kds
  | .ref n => match h[n]? with | some (.dct kds) => some kds | _ => none
  | _ => none

section
variable {g : Gx} {E : XK} {X : Cx} {w : Wd} {H : Hp} {h : Hh} {Q : VK}
theorem toK_ok {d : D} {k : Key} {x : V} (e : toK d = some k) (r : RV g w H d x) : x = kV k := by
  cases r <;> simp [toK] at e <;> subst e <;> rfl
theorem ofK_ok (k : Key) : RV g w H (ofK k) (kV k) := by
  cases k with
  | inl i => exact .int i
  | inr x => exact .str x
theorem asD_ok {d : D} {x : V} {kds : List (Key × D)} (e : asD h d = some kds) (hr : HR g w h H) (r : RV g w H d x) : ∃ a kvs, x = .ref a ∧ Rd H a (.dK kvs) ∧ kvs.map (·.1) = kds.map (·.1) ∧ RVs g w H (kds.map (·.2)) (kvs.map (·.2)) := by
  cases r with
  | dct h1 _ e1 t => simp [asD] at e; subst e; exact ⟨_, _, rfl, h1, e1, t⟩
  | @ref n a h1 =>
    simp only [asD] at e
    split at e
    · rename_i e2
      cases e
      obtain ⟨_, vs, e3, e4, t⟩ := hr.ob n _ a e2 h1
      exact ⟨a, vs, rfl, .inl e3, e4, t⟩
    · cases e
  | _ => simp [asD] at e
theorem dfind_ok {k : Key} : ∀ {kds : List (Key × D)} {kvs : List (Key × V)}, kvs.map (·.1) = kds.map (·.1) → RVs g w H (kds.map (·.2)) (kvs.map (·.2)) →
    (dfind kds k = none ∧ valV kvs k = none) ∨ ∃ d v, dfind kds k = some d ∧ valV kvs k = some v ∧ RV g w H d v
  | [], [], _, _ => .inl ⟨rfl, rfl⟩
  | [], _ :: _, e, _ => by simp at e
  | _ :: _, [], e, _ => by simp at e
  | p :: kds, q :: kvs, e, r => by
    simp only [List.map_cons, List.cons.injEq] at e
    cases r with
    | cons r1 r2 =>
      by_cases hk : p.1 = k
      · refine .inr ⟨p.2, q.2, ?_, ?_, r1⟩
        · simp [dfind, List.find?_cons, hk]
        · simp [valV, List.find?_cons, e.1, hk]
      · have e1 : dfind (p :: kds) k = dfind kds k := by simp [dfind, List.find?_cons, hk]
        have e2 : valV (q :: kvs) k = valV kvs k := by simp [valV, List.find?_cons, e.1, hk]
        rw [e1, e2]
        exact dfind_ok e.2 r2
theorem any_same {k : Key} : ∀ {kds : List (Key × D)} {kvs : List (Key × V)}, kvs.map (·.1) = kds.map (·.1) → (kds.any fun p => decide (p.1 = k)) = kvs.any fun p => decide (p.1 = k)
  | [], [], _ => rfl
  | [], _ :: _, e => by simp at e
  | _ :: _, [], e => by simp at e
  | p :: kds, q :: kvs, e => by
    simp only [List.map_cons, List.cons.injEq] at e
    rw [List.any_cons, List.any_cons, e.1, any_same e.2]
theorem map_same {k : Key} {d : D} {v : V} (rv : RV g w H d v) : ∀ {kds : List (Key × D)} {kvs : List (Key × V)}, kvs.map (·.1) = kds.map (·.1) → RVs g w H (kds.map (·.2)) (kvs.map (·.2)) →
    (kvs.map fun p => if p.1 = k then (p.1, v) else p).map (·.1) = (kds.map fun p => if p.1 = k then (p.1, d) else p).map (·.1) ∧
      RVs g w H ((kds.map fun p => if p.1 = k then (p.1, d) else p).map (·.2)) ((kvs.map fun p => if p.1 = k then (p.1, v) else p).map (·.2))
  | [], [], _, _ => ⟨rfl, .nil⟩
  | [], _ :: _, e, _ => by simp at e
  | _ :: _, [], e, _ => by simp at e
  | p :: kds, q :: kvs, e, r => by
    simp only [List.map_cons, List.cons.injEq] at e
    cases r with
    | cons r1 r2 =>
      obtain ⟨a, b⟩ := map_same rv e.2 r2
      simp only [List.map_cons, e.1]
      by_cases hk : p.1 = k
      · rw [if_pos hk, if_pos hk]
        exact ⟨by rw [a], .cons rv b⟩
      · rw [if_neg hk, if_neg hk]
        exact ⟨by rw [a, e.1], .cons r1 b⟩
theorem dput_ok {k : Key} {d : D} {v : V} {kds : List (Key × D)} {kvs : List (Key × V)} (e : kvs.map (·.1) = kds.map (·.1)) (r : RVs g w H (kds.map (·.2)) (kvs.map (·.2))) (rv : RV g w H d v) :
    (putK kvs k v).map (·.1) = (dput kds k d).map (·.1) ∧ RVs g w H ((dput kds k d).map (·.2)) ((putK kvs k v).map (·.2)) := by
  unfold putK dput
  rw [any_same e]
  split
  · exact map_same rv e r
  · rw [List.map_append, List.map_append, List.map_append, List.map_append, e]
    exact ⟨rfl, r.append (.cons rv .nil)⟩

def inB (a c : D) (h : Hh) : Option Bool := match c with
  | .str z => match a with
    | .str y => match y.cps.toList with
      | [s] => some (decide (s ∈ z.cps.toList))
      | _ => some (!(Builtin.Str.occurrences z y 0 z.length 1).isEmpty)
    | _ => none
  | c => match asD h c with
    | some kds => match toK a with
      | some k => some (dfind kds k).isSome
      | none => none
    | none => match toD h a, toD h c with
      | some p, some (.list ps) => if dOk p && PyData.plainAll ps then some (ps.any fun y => PyData.eqv y p) else none
      | some p, some (.tuple ps) => if dOk p && PyData.plainAll ps then some (ps.any fun y => PyData.eqv y p) else none
      | _, _ => none
def inD (a c : D) (h : Hh) : Res D := match inB a c h with | some b => .ok (.bl b) h | none => .bad
def ninD (a c : D) (h : Hh) : Res D := match inB a c h with | some b => .ok (.bl (!b)) h | none => .bad
theorem str_one {y : Str} {s : Nat} (e : y.cps.toList = [s]) : y = ⟨#[s]⟩ := by
  cases y with | mk c => cases c with | mk l => simp at e; subst e; rfl
theorem in_core (xo : XO g X) {pins : List (Addr × Obj)} {s : Shared} {σ : L2.St} {x y : V} {v u : Value} {a c : D} {b : Bool} (I : Inv X pins σ H s) (rx : RelV x v) (ry : RelV y u) (hr : HR g w h H) (ra : RV g w H a x) (rc : RV g w H c y) (e : inB a c h = some b)
    (Q1 Q2 : Value → Shared → Prop) (q1 : ∀ s', Inv X pins σ H s' → Q1 (.bool b) s') (q2 : ∀ s', Inv X pins σ H s' → Q2 (.bool (!b)) s') :
    wpAny (model X.prog X.w) X.A (compareOp .In v u) Q1 X.xe s ∧ wpAny (model X.prog X.w) X.A (compareOp .NotIn v u) Q2 X.xe s := by
  have dat : ∀ (h2 : (match toD h a, toD h c with
      | some p, some (.list ps) => if dOk p && PyData.plainAll ps then some (ps.any fun y => PyData.eqv y p) else none
      | some p, some (.tuple ps) => if dOk p && PyData.plainAll ps then some (ps.any fun y => PyData.eqv y p) else none
      | _, _ => none) = some b), wpAny (model X.prog X.w) X.A (compareOp .In v u) Q1 X.xe s ∧ wpAny (model X.prog X.w) X.A (compareOp .NotIn v u) Q2 X.xe s := by
    intro h2
    split at h2
    · rename_i p ps e1 e2
      split at h2
      · rename_i hz
        cases h2
        simp only [dOk, Bool.and_eq_true, decide_eq_true_eq] at hz
        obtain ⟨as, r1⟩ := toD_reads I.hok hr e1 ra rx
        obtain ⟨bs, r2⟩ := toD_reads I.hok hr e2 rc ry
        have hu : X.A.units + 1 + min (PyData.depthAll ps) p.depth < cLine := by
          have := xo.un
          have := Nat.min_le_right (PyData.depthAll ps) p.depth
          omega
        exact ⟨SeqAt.in_list_data r2 r1 hz.2 hz.1.1 hu (q1 s I), SeqAt.notIn_list_data r2 r1 hz.2 hz.1.1 hu (q2 s I)⟩
      · cases h2
    · rename_i p ps e1 e2
      split at h2
      · rename_i hz
        cases h2
        simp only [dOk, Bool.and_eq_true, decide_eq_true_eq] at hz
        obtain ⟨as, r1⟩ := toD_reads I.hok hr e1 ra rx
        obtain ⟨bs, r2⟩ := toD_reads I.hok hr e2 rc ry
        have hu : X.A.units + 1 + min (PyData.depthAll ps) p.depth < cLine := by
          have := xo.un
          have := Nat.min_le_right (PyData.depthAll ps) p.depth
          omega
        exact ⟨SeqAt.in_tuple_data r2 r1 hz.2 hz.1.1 hu (q1 s I), SeqAt.notIn_tuple_data r2 r1 hz.2 hz.1.1 hu (q2 s I)⟩
      · cases h2
    · cases h2
  have gen : ∀ (h3 : (match asD h c with
    | some kds => match toK a with
      | some k => some (dfind kds k).isSome
      | none => none
    | none => match toD h a, toD h c with
      | some p, some (.list ps) => if dOk p && PyData.plainAll ps then some (ps.any fun y => PyData.eqv y p) else none
      | some p, some (.tuple ps) => if dOk p && PyData.plainAll ps then some (ps.any fun y => PyData.eqv y p) else none
      | _, _ => none) = some b), wpAny (model X.prog X.w) X.A (compareOp .In v u) Q1 X.xe s ∧ wpAny (model X.prog X.w) X.A (compareOp .NotIn v u) Q2 X.xe s := by
    intro h3
    split at h3
    · rename_i kds e1
      split at h3
      · rename_i k e2
        cases h3
        obtain ⟨p, kvs, rfl, hp, ek, t⟩ := asD_ok e1 hr rc
        cases ry
        have ex := toK_ok e2 ra
        subst ex
        have hu : X.A.units + 1 < cLine := by have := xo.un; omega
        have eq : (valV kvs k).isSome = (dfind kds k).isSome := by
          rcases dfind_ok (k := k) ek t with ⟨z1, z2⟩ | ⟨d, v, z1, z2, _⟩ <;> rw [z1, z2] <;> rfl
        have dg : DGet H p (kV k) (valV kvs k) := .inl ⟨kvs, k, hp, rfl, rfl⟩
        exact ⟨d_in hu I dg rx fun s' I' => by rw [eq]; exact q1 s' I', d_notIn hu I dg rx fun s' I' => by rw [eq]; exact q2 s' I'⟩
      · cases h3
    · exact dat h3
  unfold inB at e
  split at e
  · cases rc
    split at e
    · cases ra
      split at e
      · rename_i y s0 e1
        have ey := str_one e1
        cases e
        subst ey
        exact ⟨thn (op_in_sign pins s σ H _ _ _ _ (fun r H' => r = .bl _ ∧ H' = H) I rx ry ⟨_, _, rfl, rfl, rfl, rfl⟩) (fun r s' ⟨rv, H', I', r1, e1, e2⟩ => by subst e1 e2; cases r1; exact q1 s' I'),
          thn (op_notIn_sign pins s σ H _ _ _ _ (fun r H' => r = .bl _ ∧ H' = H) I rx ry ⟨_, _, rfl, rfl, rfl, rfl⟩) (fun r s' ⟨rv, H', I', r1, e1, e2⟩ => by subst e1 e2; cases r1; exact q2 s' I')⟩
      · cases e
        exact ⟨thn (op_in_str pins s σ H _ _ _ _ (fun r H' => r = .bl _ ∧ H' = H) I rx ry ⟨_, _, rfl, rfl, rfl, rfl⟩) (fun r s' ⟨rv, H', I', r1, e1, e2⟩ => by subst e1 e2; cases r1; exact q1 s' I'),
          thn (op_notin_str pins s σ H _ _ _ _ (fun r H' => r = .bl _ ∧ H' = H) I rx ry ⟨_, _, rfl, rfl, rfl, rfl⟩) (fun r s' ⟨rv, H', I', r1, e1, e2⟩ => by subst e1 e2; cases r1; exact q2 s' I')⟩
    · cases e
  · exact gen e
theorem in_ok (xo : XO g X) : OpR X (compareOp .In) (rD g E inD) := by
  intro pins s σ H x y v u Q I rx ry ⟨w, h, a, b, hr, ra, rb, o⟩
  unfold inD at o
  split at o
  · rename_i b e
    exact (in_core xo I rx ry hr ra rb e _ (fun _ _ => True) (fun s' I' => fin_b I' hr o) (fun _ _ => trivial)).1
  · exact o.elim
theorem nin_ok (xo : XO g X) : OpR X (compareOp .NotIn) (rD g E ninD) := by
  intro pins s σ H x y v u Q I rx ry ⟨w, h, a, b, hr, ra, rb, o⟩
  unfold ninD at o
  split at o
  · rename_i b e
    exact (in_core xo I rx ry hr ra rb e (fun _ _ => True) _ (fun _ _ => trivial) (fun s' I' => fin_b I' hr o)).2
  · exact o.elim

def idxD (a b : D) (h : Hh) : Res D := match b with
  | .int i => match a with
    | .str z => match atI z.cps.toList i with
      | some c => if sz z.length then .ok (.str ⟨#[c]⟩) h else .bad
      | none => .bad
    | a => match asS h a with
      | some ds => match atI ds i with
        | some d => .ok d h
        | none => .bad
      | none => match asD h a with
        | some kds => match dfind kds (.inl i) with
          | some d => .ok d h
          | none => .bad
        | none => .bad
  | b => match asD h a, toK b with
    | some kds, some k => match dfind kds k with
      | some d => .ok d h
      | none => .bad
    | _, _ => .bad
theorem RVs.atI {ds : List D} {vs : List V} {i : Int} {d : D} (r : RVs g w H ds vs) (e : atI ds i = some d) : ∃ v, atI vs i = some v ∧ RV g w H d v := by
  unfold L2.atI at e ⊢
  rw [← r.length]
  simp only [Option.bind_eq_some_iff] at e ⊢
  obtain ⟨j, e1, e2⟩ := e
  obtain ⟨v, e3, rv⟩ := r.get e2
  exact ⟨v, ⟨j, e1, e3⟩, rv⟩
theorem idx_ok (xo : XO g X) {a b : Expr} {ta tb : TE} {pos : Pos} (ha : PE X a ta) (hb : PE X b tb) (hs : PlainIx b) : PE X (.Subscript a b pos) (tOp (rD g E idxD) ta tb) := by
  have hx : IxR X (fun x y H Q => rD g E idxD x y H Q ∧ ((∃ p xs i v, x = .ref p ∧ y = .int i ∧ SqL X.K H p xs ∧ L2.atI xs i = some v ∧ Q v H) ∨ (∃ p xs i v, x = .ref p ∧ y = .int i ∧ SqT X.K H p xs ∧ L2.atI xs i = some v ∧ Q v H) ∨ rIxS x y H Q)) := by
    intro value slice pins s σ H x y v u Q I rx ry ⟨_, q⟩ hs
    exact ix_seq value slice pins s σ H x y v u Q I rx ry q hs
  have hu : X.A.units + 1 < cLine := by have := xo.un; omega
  refine ⟨fun pins s σ H Q I h => ?_⟩
  have all : ∀ {H2 : Hp} {s2 : Shared} {x y : V} {v u : Value}, Inv X pins σ H2 s2 → RelV x v → RelV y u → rD g E idxD x y H2 Q → wpAny (model X.prog X.w) X.A (subscriptTail a b v u) (EP X pins σ Q) X.xe s2 := by
    intro H2 s2 x y v u I2 rx ry ⟨w, h, d, e, hr, rd, re, o⟩
    have dic : ∀ {kds : List (Key × D)} {k : Key} {d' : D}, asD h d = some kds → toK e = some k → dfind kds k = some d' → OKg g (RV g) w H2 E Q (.ok d' h) → wpAny (model X.prog X.w) X.A (subscriptTail a b v u) (EP X pins σ Q) X.xe s2 := by
      intro kds k d' e1 e2 e3 o'
      obtain ⟨p, kvs, rfl, hp, ek, t⟩ := asD_ok e1 hr rd
      cases rx
      have ex := toK_ok e2 re
      subst ex
      rcases dfind_ok (k := k) ek t with ⟨z1, z2⟩ | ⟨d2, v2, z1, z2, rv2⟩
      · rw [z1] at e3; cases e3
      · rw [z1] at e3
        cases e3
        have dg : DGet H2 p (kV k) (some v2) := .inl ⟨kvs, k, hp, rfl, z2.symm⟩
        exact tail_any (ops := [.ref p, u]) (dict_typeIs I2 dg) PySem.F.slot_dict_getitem.lookup (d_getItem hu I2 dg ry fun w' s3 I3 rw' => ⟨v2, H2, I3, rw', o'.keep hr rv2⟩) (hs _ _)
    unfold idxD at o
    split at o
    · cases re
      split at o
      · cases rd
        split at o
        · rename_i e1
          split at o
          · rename_i hz
            exact ix_str a b pins s2 σ H2 _ _ v u Q I2 rx ry ⟨_, _, _, rfl, rfl, sz_le hz, e1, o.keep hr (.str _)⟩ (hs _ _)
          · exact o.elim
        · exact o.elim
      · split at o
        · rename_i e1
          split at o
          · rename_i e2
            obtain ⟨p, vs, rfl, hq, t⟩ := asS_ok (K := X.K) e1 hr rd
            obtain ⟨v', e3, rv⟩ := t.atI e2
            rcases hq with hq | hq
            · exact ix_list a b pins s2 σ H2 _ _ v u Q I2 rx ry ⟨_, _, _, _, rfl, rfl, hq, e3, o.keep hr rv⟩ (hs _ _)
            · exact ix_tup a b pins s2 σ H2 _ _ v u Q I2 rx ry ⟨_, _, _, _, rfl, rfl, hq, e3, o.keep hr rv⟩ (hs _ _)
          · exact o.elim
        · split at o
          · rename_i e1
            split at o
            · rename_i e2
              exact dic e1 rfl e2 o
            · exact o.elim
          · exact o.elim
    · split at o
      · rename_i e1 e2
        split at o
        · rename_i e3
          exact dic e1 e2 e3 o
        · exact o.elim
      · exact o.elim
  exact Subscript_ (binT ha hb I h fun v u s2 x y H2 I2 rx ry q => all I2 rx ry q)

def slcD (a : D) (lo hi : Option Int) (h : Hh) : Res D := match a with
  | .str z => if sz z.length then .ok (.str (cutS z lo hi)) h else .bad
  | .tup ds => .ok (.tup ((ds.drop (HT.sIx ds.length 0 lo)).take (HT.sIx ds.length ds.length hi - HT.sIx ds.length 0 lo))) h
  | .scr ns => .ok (.lst (((ns.drop (HT.sIx ns.length 0 lo)).take (HT.sIx ns.length ns.length hi - HT.sIx ns.length 0 lo)).map .int)) h
  | a => match asL h a with
    | some ds => .ok (.lst ((ds.drop (HT.sIx ds.length 0 lo)).take (HT.sIx ds.length ds.length hi - HT.sIx ds.length 0 lo))) h
    | none => .bad
def rSl1 (g : Gx) (E : XK) : V → Option Int → Option Int → Hp → VK → Prop := fun x lo hi H Q => ∃ w h a, HR g w h H ∧ RV g w H a x ∧ OKg g (RV g) w H E Q (slcD a lo hi h)
theorem RVs.ints : ∀ (ns : List Int), RVs g w H (ns.map .int) (ns.map V.int)
  | [] => .nil
  | n :: ns => .cons (.int n) (RVs.ints ns)
theorem cut_ok {ds : List D} {vs : List V} (t : RVs g w H ds vs) (lo hi : Option Int) : RVs g w H ((ds.drop (HT.sIx ds.length 0 lo)).take (HT.sIx ds.length ds.length hi - HT.sIx ds.length 0 lo)) (cutV vs lo hi) := by
  unfold cutV
  rw [← t.length]
  exact (t.drop _).take _
theorem cut_all {α : Type} {ds : List α} {lo hi : Option Int} (e : HT.sIx ds.length 0 lo = 0 ∧ HT.sIx ds.length ds.length hi = ds.length) : (ds.drop (HT.sIx ds.length 0 lo)).take (HT.sIx ds.length ds.length hi - HT.sIx ds.length 0 lo) = ds := by
  rw [e.1, e.2]; simp
theorem slc_ok (xo : XO g X) : SlR X (rSl1 g E) := by
  intro pins s σ H x v vl vu lo hi sl Q I rx hs pl pu ⟨w, h, a, hr, ra, o⟩
  unfold slcD at o
  split at o
  · cases ra
    split at o
    · rename_i hz
      exact sl_str pins s σ H _ v vl vu lo hi sl Q I rx hs pl pu ⟨_, rfl, sz_le hz, o.keep hr (.str _)⟩
    · exact o.elim
  · rename_i ds
    obtain ⟨p, vs, rfl, hp, t⟩ := rv_tup ra
    refine sl_tupA pins s σ H _ v vl vu lo hi sl Q I rx hs pl pu ⟨p, vs, rfl, .inl (.inl hp), fun e => ?_, fun _ => o.tup hr (cut_ok t lo hi)⟩
    rw [← t.length] at e
    rw [cut_all e] at o
    exact o.keep hr ra
  · rename_i ns
    cases ra with
    | @scr p _ hp =>
      refine sl_list pins s σ H _ v vl vu lo hi sl Q I rx hs pl pu ⟨p, ns.map V.int, rfl, by rw [xo.K]; exact hp.sq, ?_⟩
      have e : cutV (ns.map V.int) lo hi = ((ns.drop (HT.sIx ns.length 0 lo)).take (HT.sIx ns.length ns.length hi - HT.sIx ns.length 0 lo)).map V.int := by
        unfold cutV
        rw [List.length_map, List.map_take, List.map_drop]
      rw [e]
      exact o.lst hr (RVs.ints _)
  · split at o
    · rename_i e1
      obtain ⟨p, vs, rfl, hp, t⟩ := asL_ok e1 hr ra
      exact sl_list pins s σ H _ v vl vu lo hi sl Q I rx hs pl pu ⟨p, vs, rfl, .inl (.inl hp), o.lst hr (cut_ok t lo hi)⟩
    · exact o.elim
end
end Ax
namespace Ax
open PySem PySem.Spec PyProof.Rows L2

/-- the built-in calls -/
inductive Bi where
  | len | list | nlist | tuple | sum | max | min | abs | int | sorted | nsorted | repr | all | any | isi
  deriving DecidableEq, Inhabited

/-- the built-in value that is called -/
def biV : Bi → Value
  | .len => .builtin "len"
  | .list => .type "list"
  | .nlist => .type "list"
  | .tuple => .type "tuple"
  | .sum => .builtin "sum"
  | .max => .builtin "max"
  | .min => .builtin "min"
  | .abs => .builtin "abs"
  | .int => .type "int"
  | .sorted => .builtin "sorted"
  | .nsorted => .builtin "sorted"
  | .repr => .builtin "repr"
  | .all => .builtin "all"
  | .any => .builtin "any"
  | .isi => .builtin "isinstance"
def biN : Bi → Str
  | .len => "len"
  | .list => "list"
  | .nlist => "list"
  | .tuple => "tuple"
  | .sum => "sum"
  | .max => "max"
  | .min => "min"
  | .abs => "abs"
  | .int => "int"
  | .sorted => "sorted"
  | .nsorted => "sorted"
  | .repr => "repr"
  | .all => "all"
  | .any => "any"
  | .isi => "isinstance"
theorem bi_boot (b : Bi) : bootBuiltins (biN b) = some (biV b) := by cases b <;> decide +kernel

def intsOf : List D → Option (List Int)
  | [] => some []
  | .int i :: ds => (intsOf ds).map (i :: ·)
  | _ :: _ => none
def strsOf : List D → Option (List Str)
  | [] => some []
  | .str i :: ds => (strsOf ds).map (i :: ·)
  | _ :: _ => none
def blsOf : List D → Option (List Bool)
  | [] => some []
  | .bl i :: ds => (blsOf ds).map (i :: ·)
  | _ :: _ => none
section
variable {g : Gx} {E : XK} {X : Cx} {w : Wd} {H : Hp} {h : Hh} {Q : VK}
theorem intsOf_eq : ∀ {ds : List D} {ns : List Int}, intsOf ds = some ns → ds = ns.map .int
  | [], _, e => by cases e; rfl
  | .int i :: ds, ns, e => by
    simp only [intsOf, Option.map_eq_some_iff] at e
    obtain ⟨r, e1, rfl⟩ := e
    rw [intsOf_eq e1]; rfl
  | .non :: _, _, e | .bl _ :: _, _, e | .str _ :: _, _, e | .tup _ :: _, _, e | .lst _ :: _, _, e | .dct _ :: _, _, e | .obj _ _ :: _, _, e | .ref _ :: _, _, e | .scr _ :: _, _, e | .val _ :: _, _, e => by simp [intsOf] at e
theorem strsOf_eq : ∀ {ds : List D} {ns : List Str}, strsOf ds = some ns → ds = ns.map .str
  | [], _, e => by cases e; rfl
  | .str i :: ds, ns, e => by
    simp only [strsOf, Option.map_eq_some_iff] at e
    obtain ⟨r, e1, rfl⟩ := e
    rw [strsOf_eq e1]; rfl
  | .non :: _, _, e | .bl _ :: _, _, e | .int _ :: _, _, e | .tup _ :: _, _, e | .lst _ :: _, _, e | .dct _ :: _, _, e | .obj _ _ :: _, _, e | .ref _ :: _, _, e | .scr _ :: _, _, e | .val _ :: _, _, e => by simp [strsOf] at e
theorem blsOf_eq : ∀ {ds : List D} {ns : List Bool}, blsOf ds = some ns → ds = ns.map .bl
  | [], _, e => by cases e; rfl
  | .bl i :: ds, ns, e => by
    simp only [blsOf, Option.map_eq_some_iff] at e
    obtain ⟨r, e1, rfl⟩ := e
    rw [blsOf_eq e1]; rfl
  | .non :: _, _, e | .str _ :: _, _, e | .int _ :: _, _, e | .tup _ :: _, _, e | .lst _ :: _, _, e | .dct _ :: _, _, e | .obj _ _ :: _, _, e | .ref _ :: _, _, e | .scr _ :: _, _, e | .val _ :: _, _, e => by simp [blsOf] at e
@[simp] theorem intsOf_map (ns : List Int) : intsOf (ns.map .int) = some ns := by induction ns with | nil => rfl | cons n ns ih => simp [intsOf, ih]
@[simp] theorem strsOf_map (ns : List Str) : strsOf (ns.map .str) = some ns := by induction ns with | nil => rfl | cons n ns ih => simp [strsOf, ih]
@[simp] theorem blsOf_map (ns : List Bool) : blsOf (ns.map .bl) = some ns := by induction ns with | nil => rfl | cons n ns ih => simp [blsOf, ih]
theorem RVs.toInts : ∀ {ns : List Int} {vs : List V}, RVs g w H (ns.map .int) vs → vs = ns.map V.int
  | [], _, r => by cases r; rfl
  | n :: ns, _, r => by cases r with | cons r1 r2 => cases r1; rw [RVs.toInts r2]; rfl
theorem RVs.toStrs : ∀ {ns : List Str} {vs : List V}, RVs g w H (ns.map .str) vs → vs = ns.map V.str
  | [], _, r => by cases r; rfl
  | n :: ns, _, r => by cases r with | cons r1 r2 => cases r1; rw [RVs.toStrs r2]; rfl
theorem RVs.toBls : ∀ {ns : List Bool} {vs : List V}, RVs g w H (ns.map .bl) vs → vs = ns.map V.bl
  | [], _, r => by cases r; rfl
  | n :: ns, _, r => by cases r with | cons r1 r2 => cases r1; rw [RVs.toBls r2]; rfl
theorem RVs.strs : ∀ (ns : List Str), RVs g w H (ns.map .str) (ns.map V.str)
  | [] => .nil
  | n :: ns => .cons (.str n) (RVs.strs ns)

/-- the greatest, the least -/
def maxI : List Int → Option Int
  | [] => none
  | n :: ns => some (ns.foldl Max.max n)
def minI : List Int → Option Int
  | [] => none
  | n :: ns => some (ns.foldl Min.min n)
theorem foldl_max : ∀ (ns : List Int) (n m : Int), (m = n ∨ m ∈ ns) → n ≤ m → (∀ y ∈ ns, y ≤ m) → ns.foldl Max.max n = m
  | [], n, m, h1, _, _ => by rcases h1 with h1 | h1; exact h1.symm; cases h1
  | x :: ns, n, m, h1, h2, h3 => by
    rw [List.foldl_cons]
    have hx : x ≤ m := h3 x (by simp)
    refine foldl_max ns _ m ?_ (by omega) (fun y hy => h3 y (by simp [hy]))
    rcases h1 with h1 | h1
    · left; omega
    · rcases List.mem_cons.mp h1 with h1 | h1
      · left; omega
      · exact .inr h1
theorem foldl_min : ∀ (ns : List Int) (n m : Int), (m = n ∨ m ∈ ns) → m ≤ n → (∀ y ∈ ns, m ≤ y) → ns.foldl Min.min n = m
  | [], n, m, h1, _, _ => by rcases h1 with h1 | h1; exact h1.symm; cases h1
  | x :: ns, n, m, h1, h2, h3 => by
    rw [List.foldl_cons]
    have hx : m ≤ x := h3 x (by simp)
    refine foldl_min ns _ m ?_ (by omega) (fun y hy => h3 y (by simp [hy]))
    rcases h1 with h1 | h1
    · left; omega
    · rcases List.mem_cons.mp h1 with h1 | h1
      · left; omega
      · exact .inr h1
theorem maxI_of {ns : List Int} {k m : Int} (e : maxI ns = some k) (h1 : m ∈ ns) (h2 : ∀ y ∈ ns, y ≤ m) : m = k := by
  cases ns with
  | nil => cases e
  | cons n ns =>
    simp only [maxI, Option.some.injEq] at e
    rw [← e]
    exact (foldl_max ns n m (List.mem_cons.mp h1) (h2 n (by simp)) (fun y hy => h2 y (by simp [hy]))).symm
theorem minI_of {ns : List Int} {k m : Int} (e : minI ns = some k) (h1 : m ∈ ns) (h2 : ∀ y ∈ ns, m ≤ y) : m = k := by
  cases ns with
  | nil => cases e
  | cons n ns =>
    simp only [minI, Option.some.injEq] at e
    rw [← e]
    exact (foldl_min ns n m (List.mem_cons.mp h1) (h2 n (by simp)) (fun y hy => h2 y (by simp [hy]))).symm

def alikes : List PyData → Bool := fun ps => ps.all fun p => ps.all fun q => PySem.W.alike p q
def sortable (ps : List PyData) : Bool := (ps.all fun p => match p with | .tuple (_ :: _) => true | _ => false) || (ps.all fun p => match p with | .none => false | .tuple _ => false | _ => true)
theorem alikes_ok {ps : List PyData} (e : alikes ps = true) : PySem.W.AllAlike ps := fun d hd d' hd' => by
  simp only [alikes, List.all_eq_true] at e
  exact e d hd d' hd'
theorem sortable_ok {ps : List PyData} (e : sortable ps = true) : PySem.W.Sortable ps := by
  simp only [sortable, Bool.or_eq_true, List.all_eq_true] at e
  rcases e with e | e
  · refine .inl fun d hd => ?_
    have := e d hd
    split at this
    · exact ⟨_, _, rfl⟩
    · cases this
  · refine .inr fun d hd => ?_
    have := e d hd
    constructor
    · intro z; subst z; cases this
    · intro xs z; subst z; cases this
/-- the sorted items -/
def sortD (bs : List (D × PyData)) : List (D × PyData) := bs.mergeSort (PySem.W.dataLe false (·.2))
def sortedL (h : Hh) (ds : List D) : Option (List D) := match toDs h ds with
  | some ps => if alikes ps && sortable ps && (ps.all fun p => decide (p.depth ≤ 150)) then some ((sortD (ds.zip ps)).map (·.1)) else none
  | none => none

/-- a value's built-in type -/
def tyN (h : Hh) : D → Option String
  | .non => some "NoneType"
  | .bl _ => some "bool"
  | .int _ => some "int"
  | .str _ => some "str"
  | .tup _ => some "tuple"
  | .lst _ => some "list"
  | .dct _ => some "dict"
  | .scr _ => none
  | .ref n => match h[n]? with | some (.lst _) => some "list" | some (.dct _) => some "dict" | _ => none
  | .obj _ _ => none
  | .val _ => none
theorem tyN_ok {K : PySem.W.Frag} {d : D} {x : V} {n : String} (e : tyN h d = some n) (hr : HR g w h H) (r : RV g w H d x) : TyX K H x (.type n) := by
  cases r with
  | non => simp [tyN] at e; subst e; exact .base .non
  | bl b => simp [tyN] at e; subst e; exact .base (.bl b)
  | int i => simp [tyN] at e; subst e; exact .base (.int i)
  | str y => simp [tyN] at e; subst e; exact .base (.str y)
  | tup h1 _ => simp [tyN] at e; subst e; exact .base (.tup h1)
  | lst h1 _ _ => simp [tyN] at e; subst e; exact .base (.lst h1)
  | dct h1 _ _ _ =>
    simp [tyN] at e; subst e
    rcases h1 with h1 | ⟨o, h1⟩
    · exact .base (.dK h1)
    · exact .fDict h1
  | scr h1 => simp [tyN] at e
  | @ref k a h1 =>
    simp only [tyN] at e
    split at e
    · rename_i e1
      cases e
      obtain ⟨_, vs, e2, _⟩ := hr.ob k _ a e1 h1
      exact .base (.lst e2)
    · rename_i e1
      cases e
      obtain ⟨_, vs, e2, _⟩ := hr.ob k _ a e1 h1
      exact .base (.dK e2)
    · cases e
  | obj _ _ _ _ _ => simp [tyN] at e
  | val _ => simp [tyN] at e

/-- what a built-in call gives -/
def bLen (ds : List D) (h : Hh) : Res D := match ds with
  | [d] => match d with
    | .str z => if sz z.length then .ok (.int z.length) h else .bad
    | d => match asS h d with
      | some ds => .ok (.int ds.length) h
      | none => match asD h d with
        | some kds => .ok (.int kds.length) h
        | none => .bad
  | _ => .bad
def bSeq (f : List D → Res D) (ds : List D) (h : Hh) : Res D := match ds with
  | [d] => match asS h d with
    | some ds => f ds
    | none => .bad
  | _ => .bad
def bInts (f : List Int → Res D) (ds : List D) (h : Hh) : Res D := match ds with
  | [d] => match asL h d with
    | some ds => match intsOf ds with
      | some ns => f ns
      | none => .bad
    | none => .bad
  | _ => .bad
def bBls (f : List Bool → Res D) (ds : List D) (h : Hh) : Res D := match ds with
  | [d] => match asL h d with
    | some ds => match blsOf ds with
      | some ns => f ns
      | none => .bad
    | none => .bad
  | _ => .bad
def bSrt (f : List D → Res D) (ds : List D) (h : Hh) : Res D := match ds with
  | [d] => match asL h d with
    | some ds => match sortedL h ds with
      | some es => f es
      | none => .bad
    | none => .bad
  | _ => .bad
def bAbs (ds : List D) (h : Hh) : Res D := match ds with
  | [.int i] => .ok (.int (if i < 0 then -i else i)) h
  | _ => .bad
def bInt (ds : List D) (h : Hh) : Res D := match ds with
  | [.int i] => .ok (.int i) h
  | [.bl k] => .ok (.int (if k then 1 else 0)) h
  | _ => .bad
def bRepr (ds : List D) (h : Hh) : Res D := match ds with
  | [d] => match toD h d with
    | some p => if p.showable && (!p.hasDict || noL p) && sz p.shown.length && decide (p.depth ≤ 150) then .ok (.str p.shown) h else .bad
    | none => .bad
  | _ => .bad
def bIsi (ds : List D) (h : Hh) : Res D := match ds with
  | [d, .val (.ty c)] => match tyN h d with
    | some n => match kitB n c with
      | some b => .ok (.bl b) h
      | none => .bad
    | none => .bad
  | _ => .bad
def optI (o : Option Int) (h : Hh) : Res D := match o with
  | some k => .ok (.int k) h
  | none => .bad
def biS (b : Bi) (ds : List D) (h : Hh) : Res D := match b with
  | .len => bLen ds h
  | .list => bSeq (fun es => .ok (.lst es) h) ds h
  | .nlist => bSeq (fun es => .ok (.ref h.length) (h ++ [.lst es])) ds h
  | .tuple => bSeq (fun es => .ok (.tup es) h) ds h
  | .sum => bInts (fun ns => .ok (.int ns.sum) h) ds h
  | .max => bInts (fun ns => optI (maxI ns) h) ds h
  | .min => bInts (fun ns => optI (minI ns) h) ds h
  | .abs => bAbs ds h
  | .int => bInt ds h
  | .sorted => bSrt (fun es => .ok (.lst es) h) ds h
  | .nsorted => bSrt (fun es => .ok (.ref h.length) (h ++ [.lst es])) ds h
  | .repr => bRepr ds h
  | .all => bBls (fun bs => .ok (.bl (bs.all id)) h) ds h
  | .any => bBls (fun bs => .ok (.bl (bs.any id)) h) ds h
  | .isi => bIsi ds h
theorem callr_of {f : Value} {fd : List D → Hh → Res D}
    (hh : ∀ (w : Wd) (H : Hp) (h : Hh) (ds : List D) (xs : List V) (Q : VK), HR g w h H → RVs g w H ds xs → OKg g (RV g) w H E Q (fd ds h) → ∃ r, CallR X f r ∧ r xs H Q) : CallR X f (rC g E fd) := by
  intro pins s σ H xs us Q I rx ⟨w, h, ds, hr, ra, o⟩
  obtain ⟨r, hop, q⟩ := hh w H h ds xs Q hr ra o
  exact hop pins s σ H xs us Q I rx q
theorem rvs1 {d : D} {xs : List V} (r : RVs g w H [d] xs) : ∃ x, xs = [x] ∧ RV g w H d x := by
  cases r with | cons r1 r2 => cases r2; exact ⟨_, rfl, r1⟩
theorem rvs2 {d e : D} {xs : List V} (r : RVs g w H [d, e] xs) : ∃ x y, xs = [x, y] ∧ RV g w H d x ∧ RV g w H e y := by
  cases r with | cons r1 r2 => cases r2 with | cons r3 r4 => cases r4; exact ⟨_, _, rfl, r1, r3⟩
theorem call_lenR : CallR X (.builtin "len") (fun xs H Q => ∃ a kvs, xs = [V.ref a] ∧ Rd H a (.dK kvs) ∧ Q (.int kvs.length) H) := by
  intro pins s σ H xs us Q I r ⟨a, kvs, ex, e, q⟩
  subst ex
  obtain ⟨u, rfl, ru⟩ := vals1 r
  cases ru
  exact d_len I e fun t s' I' => ⟨.int kvs.length, H, I', ⟨t, rfl⟩, q⟩
theorem zip_reads {hp : Heap} : ∀ {ds : List D} {ps : List PyData} {vs : List V} {us : List Value} {as : List Addr}, RVs g w H ds vs → Vals vs us → ReadsAll hp us ps as →
    PySem.W.EachIs (fun u (b : D × PyData) => ∃ v, RelV v u ∧ RV g w H b.1 v) us (ds.zip ps) ∧ PySem.W.EachIs (fun u (b : D × PyData) => ∃ as, Reads hp u b.2 as) us (ds.zip ps)
  | _, _, _, _, _, .nil, .nil, .nil => ⟨.nil, .nil⟩
  | _, _, _, _, _, .cons r1 r2, .cons q1 q2, .cons z1 z2 => by
    obtain ⟨a, b⟩ := zip_reads r2 q2 z2
    exact ⟨.cons ⟨_, q1, r1⟩ a, .cons ⟨_, z1⟩ b⟩
theorem each_back : ∀ {us : List Value} {bs : List (D × PyData)}, PySem.W.EachIs (fun u (b : D × PyData) => ∃ v, RelV v u ∧ RV g w H b.1 v) us bs → ∃ vs, Vals vs us ∧ RVs g w H (bs.map (·.1)) vs
  | _, _, .nil => ⟨[], .nil, .nil⟩
  | _, _, .cons ⟨v, q, r⟩ t => by
    obtain ⟨vs, a, b⟩ := each_back t
    exact ⟨v :: vs, .cons q a, .cons r b⟩
theorem zip_snd : ∀ {ds : List D} {ps : List PyData}, ds.length = ps.length → (ds.zip ps).map (·.2) = ps
  | [], [], _ => rfl
  | d :: ds, p :: ps, e => by simp only [List.zip_cons_cons, List.map_cons]; rw [zip_snd (by simpa using e)]
  | [], _ :: _, e => by simp at e
  | _ :: _, [], e => by simp at e
theorem toPs_len {f : Nat → Option PyData} : ∀ {ds : List D} {ps : List PyData}, toPs f ds = some ps → ds.length = ps.length
  | [], _, e => by simp [toPs] at e; subst e; rfl
  | d :: ds, ps, e => by
    simp only [toPs] at e
    split at e
    · rename_i e2
      cases e
      rw [List.length_cons, List.length_cons, toPs_len e2]
    · cases e
theorem sorted_core (xo : XO g X) {pins : List (Addr × Obj)} {s : Shared} {σ : L2.St} {a : Addr} {vs : List V} {ds es : List D} (I : Inv X pins σ H s) (hr : HR g w h H) (ha : H a = some (.lst vs)) (t : RVs g w H ds vs) (e : sortedL h ds = some es)
    (q : ∀ us p, RVs g w H es us → H p = none → Q (.ref p) (upd H p (.lst us))) : wpAny (model X.prog X.w) X.A (call (.builtin "sorted") [.ref a]) (EP X pins σ Q) X.xe s := by
  unfold sortedL at e
  split at e
  · rename_i ps e1
    split at e
    · rename_i hz
      cases e
      simp only [Bool.and_eq_true, List.all_eq_true, decide_eq_true_eq] at hz
      obtain ⟨⟨h1, h2⟩, h3⟩ := hz
      obtain ⟨its, n, rv, hp, hz⟩ := lst_at I.hok ha
      obtain ⟨as, rs⟩ := toDs_reads I.hok hr e1 t rv
      have hl := toPs_len e1
      obtain ⟨z1, z2⟩ := zip_reads t rv rs
      refine PySem.W.sorted_data (enc := fun b : D × PyData => b.2) ⟨_, hp, rfl, n, rfl⟩ z1 z2 (by rw [zip_snd hl]; exact alikes_ok h1) (by rw [zip_snd hl]; exact sortable_ok h2) ?_ (fun b hb => ?_) (fun out ho hout => ?_)
      · rw [List.length_zip, hl, Nat.min_self, ← hl, t.length]; exact hz
      · have hb2 : b.2 ∈ ps := (List.of_mem_zip hb).2
        have := h3 _ hb2
        have := xo.un
        omega
      · obtain ⟨us, k1, k2⟩ := each_back hout
        obtain ⟨ep, he'⟩ := PyProof.Rows.sortedAll_at s.heap its out.toArray
        have hlen : us.length ≤ sizeLine := by
          rw [k1.length, ho, List.length_zip, hl, Nat.min_self, ← hl, t.length]; exact hz
        exact ⟨.ref _, upd H (s.heap.objs.size + 1) (.lst us), I.laid (t' := s.toks) (fun _ _ => PyProof.Rows.sortedAll_old) (Nat.le_succ _) ⟨hlen, out, ep, k1, he'⟩, rfl, q us _ k2 (I.hok.fresh (Nat.le_succ _))⟩
    · cases e
  · cases e
def rSrt (g : Gx) : List V → Hp → VK → Prop := fun xs H Q => ∃ w h a vs ds es, xs = [V.ref a] ∧ HR g w h H ∧ H a = some (.lst vs) ∧ RVs g w H ds vs ∧ sortedL h ds = some es ∧ ∀ us p, RVs g w H es us → H p = none → Q (.ref p) (upd H p (.lst us))
theorem srt_ok (xo : XO g X) : CallR X (.builtin "sorted") (rSrt g) := by
  intro pins s σ H xs us Q I r ⟨w, h, a, vs, ds, es, ex, hr, ha, t, e, q⟩
  subst ex
  obtain ⟨u, rfl, ru⟩ := vals1 r
  cases ru
  exact sorted_core xo I hr ha t e q
def rRep (g : Gx) : List V → Hp → VK → Prop := fun xs H Q => ∃ w h d x p, xs = [x] ∧ HR g w h H ∧ RV g w H d x ∧ toD h d = some p ∧ p.showable = true ∧ (p.hasDict = true → noL p = true) ∧ p.shown.length ≤ sizeLine ∧ p.depth ≤ 150 ∧ Q (.str p.shown) H
theorem rep_ok (xo : XO g X) : CallR X (.builtin "repr") (rRep g) := by
  intro pins s σ H xs us Q I r ⟨w, h, d, x, p, ex, hr, rd, e, h1, h2, h3, h4, q⟩
  subst ex
  obtain ⟨u, rfl, ru⟩ := vals1 r
  obtain ⟨as, rs, hn⟩ := toD_reads' I.hok hr e rd ru
  have hun := xo.un
  cases rs with
  | none => exact PySem.P.repr_of_none ⟨.str _, H, I.tok _, ⟨_, rfl⟩, q⟩
  | bool b => exact PySem.P.repr_of_bool ⟨.str _, H, I.tok _, ⟨_, rfl⟩, q⟩
  | int i t => exact PySem.P.repr_of_int (by simpa [PyData.showable] using h1) ⟨.str _, H, I.tok _, ⟨_, rfl⟩, q⟩
  | str y t => exact PySem.P.repr_of_str ⟨.str _, H, I.tok _, ⟨_, rfl⟩, q⟩ h3
  | list a1 a2 a3 a4 =>
    exact repr_of_reads' (.list a1 a2 a3 a4) h1 (fun z => hn (h2 z)) xo.gd (by omega) (fun _ _ e => e) (fun h' u tk hk => ⟨.str _, H, I.kept hk, ⟨_, rfl⟩, q⟩) h3
  | tuple a1 a2 a3 a4 =>
    exact repr_of_reads' (.tuple a1 a2 a3 a4) h1 (fun z => hn (h2 z)) xo.gd (by omega) (fun _ _ e => e) (fun h' u tk hk => ⟨.str _, H, I.kept hk, ⟨_, rfl⟩, q⟩) h3
  | dict a1 a2 a3 a4 a5 =>
    exact repr_of_reads' (.dict a1 a2 a3 a4 a5) h1 (fun z => hn (h2 z)) xo.gd (by omega) (fun _ _ e => e) (fun h' u tk hk => ⟨.str _, H, I.kept hk, ⟨_, rfl⟩, q⟩) h3
theorem bi_ok (xo : XO g X) (b : Bi) : CallR X (biV b) (rC g E (biS b)) := callr_of fun w H h ds xs Q hr ra o => by
  cases b with
  | len =>
    simp only [biS, bLen] at o
    split at o
    · obtain ⟨x, rfl, rx⟩ := rvs1 ra
      split at o
      · cases rx
        split at o
        · exact ⟨_, call_len_str, _, rfl, sz_le ‹_›, o.keep hr (.int _)⟩
        · exact o.elim
      · split at o
        · rename_i e1
          obtain ⟨p, vs, rfl, hq, t⟩ := asS_ok (K := X.K) e1 hr rx
          rw [t.length] at o
          exact ⟨_, call_len_seq, _, _, rfl, hq, o.keep hr (.int _)⟩
        · split at o
          · rename_i kds e1
            obtain ⟨p, kvs, rfl, hq, ek, t⟩ := asD_ok e1 hr rx
            have el : kds.length = kvs.length := by have := congrArg List.length ek; simpa using this.symm
            rw [el] at o
            exact ⟨_, call_lenR, _, _, rfl, hq, o.keep hr (.int _)⟩
          · exact o.elim
    · exact o.elim
  | list =>
    simp only [biS, bSeq] at o
    split at o
    · obtain ⟨x, rfl, rx⟩ := rvs1 ra
      split at o
      · rename_i e1
        obtain ⟨p, vs, rfl, hq, t⟩ := asS_ok (K := X.K) e1 hr rx
        exact ⟨_, call_list_of, _, _, rfl, hq, o.lst hr t⟩
      · exact o.elim
    · exact o.elim
  | nlist =>
    simp only [biS, bSeq] at o
    split at o
    · obtain ⟨x, rfl, rx⟩ := rvs1 ra
      split at o
      · rename_i e1
        obtain ⟨p, vs, rfl, hq, t⟩ := asS_ok (K := X.K) e1 hr rx
        exact ⟨_, call_list_of, _, _, rfl, hq, o.nlst hr t⟩
      · exact o.elim
    · exact o.elim
  | tuple =>
    simp only [biS, bSeq] at o
    split at o
    · obtain ⟨x, rfl, rx⟩ := rvs1 ra
      split at o
      · rename_i d _ ds0 e1
        by_cases hd : ∃ es, d = .tup es
        · obtain ⟨es, rfl⟩ := hd
          obtain ⟨p, vs, rfl, hq, t⟩ := rv_tup rx
          simp [asS] at e1
          subst e1
          exact ⟨_, call_tuple_of, _, _, rfl, .inr ⟨.inl (.inl hq), o.keep hr rx⟩⟩
        · have e2 : asL h d = some ds0 := by
            cases d with
            | tup es => exact absurd ⟨es, rfl⟩ hd
            | _ => exact e1
          obtain ⟨p, vs, rfl, hq, t⟩ := asL_ok e2 hr rx
          exact ⟨_, call_tuple_of, _, _, rfl, .inl ⟨.inl (.inl hq), o.tup hr t⟩⟩
      · exact o.elim
    · exact o.elim
  | sum =>
    simp only [biS, bInts] at o
    split at o
    · obtain ⟨x, rfl, rx⟩ := rvs1 ra
      split at o
      · rename_i e1
        split at o
        · rename_i e2
          obtain ⟨p, vs, rfl, hq, t⟩ := asL_ok e1 hr rx
          have e3 := intsOf_eq e2
          subst e3
          have e4 := t.toInts
          subst e4
          exact ⟨_, cr_sum xo.calm, _, _, rfl, .inl (.inl hq), o.keep hr (.int _)⟩
        · exact o.elim
      · exact o.elim
    · exact o.elim
  | max =>
    simp only [biS, bInts] at o
    split at o
    · obtain ⟨x, rfl, rx⟩ := rvs1 ra
      split at o
      · rename_i e1
        split at o
        · rename_i e2
          simp only [optI] at o
          split at o
          · rename_i e5
            obtain ⟨p, vs, rfl, hq, t⟩ := asL_ok e1 hr rx
            have e3 := intsOf_eq e2
            subst e3
            have e4 := t.toInts
            subst e4
            refine ⟨_, cr_max xo.calm, _, _, rfl, .inl (.inl hq), ?_, fun m m1 m2 => ?_⟩
            · refine Nat.pos_of_ne_zero fun z => ?_
              rw [List.length_eq_zero_iff.mp z] at e5
              cases e5
            · rw [maxI_of e5 m1 m2]
              exact o.keep hr (.int _)
          · exact o.elim
        · exact o.elim
      · exact o.elim
    · exact o.elim
  | min =>
    simp only [biS, bInts] at o
    split at o
    · obtain ⟨x, rfl, rx⟩ := rvs1 ra
      split at o
      · rename_i e1
        split at o
        · rename_i e2
          simp only [optI] at o
          split at o
          · rename_i e5
            obtain ⟨p, vs, rfl, hq, t⟩ := asL_ok e1 hr rx
            have e3 := intsOf_eq e2
            subst e3
            have e4 := t.toInts
            subst e4
            refine ⟨_, cr_min xo.calm, _, _, rfl, .inl (.inl hq), ?_, fun m m1 m2 => ?_⟩
            · refine Nat.pos_of_ne_zero fun z => ?_
              rw [List.length_eq_zero_iff.mp z] at e5
              cases e5
            · rw [minI_of e5 m1 m2]
              exact o.keep hr (.int _)
          · exact o.elim
        · exact o.elim
      · exact o.elim
    · exact o.elim
  | abs =>
    simp only [biS, bAbs] at o
    split at o
    · obtain ⟨x, rfl, rx⟩ := rvs1 ra
      cases rx
      exact ⟨_, call_abs, _, rfl, o.keep hr (.int _)⟩
    · exact o.elim
  | int =>
    simp only [biS, bInt] at o
    split at o
    · obtain ⟨x, rfl, rx⟩ := rvs1 ra
      cases rx
      exact ⟨_, call_int1, .inl ⟨_, rfl, o.keep hr (.int _)⟩⟩
    · obtain ⟨x, rfl, rx⟩ := rvs1 ra
      cases rx
      exact ⟨_, call_int1, .inr ⟨_, rfl, o.keep hr (.int _)⟩⟩
    · exact o.elim
  | sorted =>
    simp only [biS, bSrt] at o
    split at o
    · obtain ⟨x, rfl, rx⟩ := rvs1 ra
      split at o
      · rename_i e1
        split at o
        · rename_i e2
          obtain ⟨p, vs, rfl, hq, t⟩ := asL_ok e1 hr rx
          exact ⟨_, srt_ok xo, w, h, p, vs, _, _, rfl, hr, hq, t, e2, fun us q ru hq => o.lst hr ru q hq⟩
        · exact o.elim
      · exact o.elim
    · exact o.elim
  | nsorted =>
    simp only [biS, bSrt] at o
    split at o
    · obtain ⟨x, rfl, rx⟩ := rvs1 ra
      split at o
      · rename_i e1
        split at o
        · rename_i e2
          obtain ⟨p, vs, rfl, hq, t⟩ := asL_ok e1 hr rx
          exact ⟨_, srt_ok xo, w, h, p, vs, _, _, rfl, hr, hq, t, e2, fun us q ru hq => o.nlst hr ru q hq⟩
        · exact o.elim
      · exact o.elim
    · exact o.elim
  | repr =>
    simp only [biS, bRepr] at o
    split at o
    · obtain ⟨x, rfl, rx⟩ := rvs1 ra
      split at o
      · rename_i e1
        split at o
        · rename_i hz
          simp only [Bool.and_eq_true, Bool.or_eq_true, decide_eq_true_eq, Bool.not_eq_true'] at hz
          obtain ⟨⟨⟨h1, h2⟩, h3⟩, h4⟩ := hz
          exact ⟨_, rep_ok xo, w, h, _, _, _, rfl, hr, rx, e1, h1, fun z => h2.resolve_left (by rw [z]; simp), sz_le h3, h4, o.keep hr (.str _)⟩
        · exact o.elim
      · exact o.elim
    · exact o.elim
  | all =>
    simp only [biS, bBls] at o
    split at o
    · obtain ⟨x, rfl, rx⟩ := rvs1 ra
      split at o
      · rename_i e1
        split at o
        · rename_i e2
          obtain ⟨p, vs, rfl, hq, t⟩ := asL_ok e1 hr rx
          have e3 := blsOf_eq e2
          subst e3
          have e4 := t.toBls
          subst e4
          exact ⟨_, cr_all xo.calm, _, _, rfl, .inl (.inl hq), o.keep hr (.bl _)⟩
        · exact o.elim
      · exact o.elim
    · exact o.elim
  | any =>
    simp only [biS, bBls] at o
    split at o
    · obtain ⟨x, rfl, rx⟩ := rvs1 ra
      split at o
      · rename_i e1
        split at o
        · rename_i e2
          obtain ⟨p, vs, rfl, hq, t⟩ := asL_ok e1 hr rx
          have e3 := blsOf_eq e2
          subst e3
          have e4 := t.toBls
          subst e4
          exact ⟨_, cr_any xo.calm, _, _, rfl, .inl (.inl hq), o.keep hr (.bl _)⟩
        · exact o.elim
      · exact o.elim
    · exact o.elim
  | isi =>
    simp only [biS, bIsi] at o
    split at o
    · obtain ⟨x, y, rfl, rx, ry⟩ := rvs2 ra
      cases ry
      split at o
      · rename_i e1
        split at o
        · rename_i e2
          exact ⟨_, call_isi, _, _, _, _, _, rfl, .ty _, tyN_ok e1 hr rx, kit_ty e2, o.keep hr (.bl _)⟩
        · exact o.elim
      · exact o.elim
    · exact o.elim
end
end Ax
namespace Ax
open PySem PySem.Spec PyProof.Rows L2

abbrev Fn := Rho → Hh → Res D
abbrev Ft := Rho → Hh → Res Bool
abbrev Fl := Rho → Hh → Res (List D)

section
variable {α β : Type} {g : Gx} {E : XK} {X : Cx} {w : Wd} {ρ : Rho} {h : Hh} {σ : L2.St} {H : Hp} {R' : Wd → Hp → α → β → Prop} {Q2 : β → Hp → Prop}
theorem tI_go {f : Fn} {k : D → Hh → Res α} (s : SR g w ρ h σ H) (o : OKg g R' w H E Q2 ((f ρ h).bind k)) {Q : VK}
    (hq : ∀ V H1 w1 a h1, Later w H w1 H1 → SR g w1 ρ h1 σ H1 → RV g w1 H1 a V → OKg g R' w1 H1 E Q2 (k a h1) → Q V H1) : tI g E f σ H Q :=
  ⟨w, ρ, h, s, (OKg.bind o).imp fun V H1 ⟨w1, a, h1, l, hr, rv, o1⟩ => hq V H1 w1 a h1 l (s.step l hr) rv o1⟩
theorem tT_go {f : Ft} {k : Bool → Hh → Res α} (s : SR g w ρ h σ H) (o : OKg g R' w H E Q2 ((f ρ h).bind k)) {Q : Bool → Hp → Prop}
    (hq : ∀ b H1 w1 h1, Later w H w1 H1 → SR g w1 ρ h1 σ H1 → OKg g R' w1 H1 E Q2 (k b h1) → Q b H1) : tT g E f σ H Q :=
  ⟨w, ρ, h, s, (OKg.bind (R := RB) o).imp fun b H1 ⟨w1, a, h1, l, hr, rv, o1⟩ => by cases rv; exact hq b H1 w1 h1 l (s.step l hr) o1⟩
theorem tL_go {f : Fl} {k : List D → Hh → Res α} (s : SR g w ρ h σ H) (o : OKg g R' w H E Q2 ((f ρ h).bind k)) {Q : List V → Hp → Prop}
    (hq : ∀ Vs H1 w1 ds h1, Later w H w1 H1 → SR g w1 ρ h1 σ H1 → RVs g w1 H1 ds Vs → OKg g R' w1 H1 E Q2 (k ds h1) → Q Vs H1) : tL g E f σ H Q :=
  ⟨w, ρ, h, s, (OKg.bind o).imp fun V H1 ⟨w1, a, h1, l, hr, rv, o1⟩ => hq V H1 w1 a h1 l (s.step l hr) rv o1⟩
end

def xV (i : Nat) : Fn := fun ρ h => match ρ[i]? with | some (some d) => .ok d h | _ => .bad
def xC (d : D) : Fn := fun _ h => .ok d h
def xBin (op : D → D → Hh → Res D) (a b : Fn) : Fn := fun ρ h => (a ρ h).bind fun x h1 => (b ρ h1).bind fun y h2 => op x y h2
def negD (a : D) (h : Hh) : Res D := match a with | .int i => .ok (.int (-i)) h | _ => .bad
def xUn (op : D → Hh → Res D) (a : Fn) : Fn := fun ρ h => (a ρ h).bind fun x h1 => op x h1
def xNil : Fl := fun _ h => .ok [] h
def xCons (a : Fn) (r : Fl) : Fl := fun ρ h => (a ρ h).bind fun x h1 => (r ρ h1).bind fun xs h2 => .ok (x :: xs) h2
def xTup (a : Fl) : Fn := fun ρ h => (a ρ h).bind fun ds h1 => if sz ds.length then .ok (.tup ds) h1 else .bad
def xLst (a : Fl) : Fn := fun ρ h => (a ρ h).bind fun ds h1 => if sz ds.length then .ok (.lst ds) h1 else .bad
def xNlst (a : Fl) : Fn := fun ρ h => (a ρ h).bind fun ds h1 => if sz ds.length then .ok (.ref h1.length) (h1 ++ [.lst ds]) else .bad
def xDct0 : Fn := fun _ h => .ok (.dct []) h
def xNdct0 : Fn := fun _ h => .ok (.ref h.length) (h ++ [.dct []])
def isB (d : D) (h : Hh) : Res Bool := match d with | .bl b => .ok b h | _ => .bad
def xAnd (a b : Fn) : Fn := fun ρ h => (a ρ h).bind fun x h1 => (isB x h1).bind fun c h2 => if c then b ρ h2 else .ok (.bl false) h2
def xOr (a b : Fn) : Fn := fun ρ h => (a ρ h).bind fun x h1 => (isB x h1).bind fun c h2 => if c then .ok (.bl true) h2 else b ρ h2
def xNot (a : Fn) : Fn := fun ρ h => (a ρ h).bind fun x h1 => (isB x h1).bind fun c h2 => .ok (.bl (!c)) h2
def xIfe (t : Ft) (a b : Fn) : Fn := fun ρ h => (t ρ h).bind fun c h1 => if c then a ρ h1 else b ρ h1
def xChain (op op' : D → D → Hh → Res D) (a b c : Fn) : Fn := fun ρ h => (a ρ h).bind fun x h1 => (b ρ h1).bind fun y h2 => (op x y h2).bind fun z h3 => (isB z h3).bind fun k h4 => if k then (c ρ h4).bind fun u h5 => op' y u h5 else .ok (.bl false) h4
def xIdx (a b : Fn) : Fn := xBin idxD a b
/-- a slice's part -/
abbrev Fo := Rho → Hh → Res (Option Int)
def xNo : Fo := fun _ h => .ok none h
def isI (d : D) (h : Hh) : Res (Option Int) := match d with | .int i => .ok (some i) h | _ => .bad
def xSome (a : Fn) : Fo := fun ρ h => (a ρ h).bind fun x h1 => isI x h1
def xSlc (a : Fn) (lo hi : Fo) : Fn := fun ρ h => (a ρ h).bind fun x h1 => (lo ρ h1).bind fun l h2 => (hi ρ h2).bind fun u h3 => slcD x l u h3
def xBi (b : Bi) (a : Fl) : Fn := fun ρ h => (a ρ h).bind fun ds h1 => biS b ds h1
def xCall (n : Nat) (c : List D → Hh → Res D) (a : Fl) : Fn := fun ρ h => (a ρ h).bind fun ds h1 => if ds.length = n then c ds h1 else .bad
def yV (a : Fn) : Ft := fun ρ h => (a ρ h).bind fun x h1 => isB x h1
def yAnd (a b : Ft) : Ft := fun ρ h => (a ρ h).bind fun c h1 => if c then b ρ h1 else .ok false h1
def yOr (a b : Ft) : Ft := fun ρ h => (a ρ h).bind fun c h1 => if c then .ok true h1 else b ρ h1
def yNot (a : Ft) : Ft := fun ρ h => (a ρ h).bind fun c h1 => .ok (!c) h1
def yYes : Ft := fun _ h => .ok true h

section
variable {g : Gx} {E : XK} {X : Cx} {a b c : Expr} {pos p p2 : Pos} {fa fb fc : Fn} {es : List Expr} {fs : Fl}
theorem q_var {i : Nat} {x : Str} (hp : PE X (.Name x pos) (tVar i)) : PE X (.Name x pos) (tI g E (xV i)) := ⟨fun pins s σ H Q I ⟨w, ρ, h, sr, o⟩ => by
  unfold xV at o
  split at o
  · rename_i d e
    obtain ⟨v, e1, rv⟩ := sr.rs i d e
    exact hp.run pins s σ H Q I ⟨v, e1, o.keep sr.hr rv⟩
  · exact o.elim⟩
theorem q_c {e : Expr} {d : D} {v : V} (hp : PE X e (tC v)) (hd : ∀ w H, RV g w H d v) : PE X e (tI g E (xC d)) := ⟨fun pins s σ H Q I ⟨w, ρ, h, sr, o⟩ => hp.run pins s σ H Q I (o.keep sr.hr (hd w H))⟩
theorem q_int {i : Int} {j : Nat} : PE X (.Constant (.int i) j pos) (tI g E (xC (.int i))) := q_c pe_int fun _ _ => .int i
theorem q_str {i : Str} {j : Nat} : PE X (.Constant (.str i) j pos) (tI g E (xC (.str i))) := q_c pe_str fun _ _ => .str i
theorem q_bl {i : Bool} {j : Nat} : PE X (.Constant (.bool i) j pos) (tI g E (xC (.bl i))) := q_c pe_bl fun _ _ => .bl i
theorem q_non {j : Nat} : PE X (.Constant .none j pos) (tI g E (xC .non)) := q_c pe_non fun _ _ => .non
theorem q_bin {op : Operator} {f : D → D → Hh → Res D} (ho : OpR X (binaryOp op) (rD g E f)) (ha : PE X a (tI g E fa)) (hb : PE X b (tI g E fb)) : PE X (.BinOp a op b pos) (tI g E (xBin f fa fb)) :=
  ⟨fun pins s σ H Q I ⟨w, ρ, h, sr, o⟩ => (pe_op ho ha hb).run pins s σ H Q I (tI_go sr o fun V H1 w1 a h1 l sr1 rv o1 => tI_go sr1 o1 fun V2 H2 w2 b h2 l2 sr2 rv2 o2 => ⟨w2, h2, a, b, sr2.hr, rv.mono l2, rv2, o2⟩)⟩
theorem q_neg (ha : PE X a (tI g E fa)) : PE X (.UnaryOp .USub a pos) (tI g E (xUn negD fa)) :=
  ⟨fun pins s σ H Q I ⟨w, ρ, h, sr, o⟩ => (pe_un un_neg ha).run pins s σ H Q I (tI_go sr o fun V H1 w1 a h1 l sr1 rv o1 => by
    unfold negD at o1
    split at o1
    · cases rv
      exact ⟨_, rfl, o1.keep sr1.hr (.int _)⟩
    · exact o1.elim)⟩
theorem q_cmp {op : CmpOp} {f : D → D → Hh → Res D} (ho : OpR X (compareOp op) (rD g E f)) (ha : PE X a (tI g E fa)) (hb : PE X b (tI g E fb)) (hm : behindInMarks op b = false := by rfl) : PE X (.Compare a [op] [b] pos) (tI g E (xBin f fa fb)) :=
  ⟨fun pins s σ H Q I ⟨w, ρ, h, sr, o⟩ => (pe_cmpR ho ha hb hm).run pins s σ H Q I (tI_go sr o fun V H1 w1 a h1 l sr1 rv o1 => tI_go sr1 o1 fun V2 H2 w2 b h2 l2 sr2 rv2 o2 => ⟨w2, h2, a, b, sr2.hr, rv.mono l2, rv2, o2⟩)⟩
theorem q_nil : PA X [] (tL g E xNil) := ⟨fun ps pins s σ H Q I ⟨w, ρ, h, sr, o⟩ => pa_nil.run ps pins s σ H Q I (o w H [] (Later.refl w H) sr.hr .nil)⟩
theorem q_cons (ha : PE X a (tI g E fa)) (hr : PA X es (tL g E fs)) (hs : starEach (a :: es) X.env = (false, eval a X.env) :: starEach es X.env := by rfl) : PA X (a :: es) (tL g E (xCons fa fs)) :=
  ⟨fun ps pins s σ H Q I ⟨w, ρ, h, sr, o⟩ => (pa_cons ha hr hs).run ps pins s σ H Q I (tI_go sr o fun V H1 w1 a h1 l sr1 rv o1 => tL_go sr1 o1 fun Vs H2 w2 ds h2 l2 sr2 rvs o2 => o2 w2 H2 (V :: Vs) (Later.refl w2 H2) sr2.hr (.cons (rv.mono l2) rvs))⟩
theorem q_tup {k : Nat} (ha : PA X es (tL g E fs)) : PE X (.Tuple es k pos) (tI g E (xTup fs)) :=
  ⟨fun pins s σ H Q I ⟨w, ρ, h, sr, o⟩ => (pe_tup ha).run pins s σ H Q I (tL_go sr o fun Vs H1 w1 ds h1 l sr1 rvs o1 => by
    split at o1
    · rename_i hz
      rw [rvs.length] at hz
      exact ⟨sz_le hz, o1.tup sr1.hr rvs⟩
    · exact o1.elim)⟩
theorem q_lst (ha : PA X es (tL g E fs)) : PE X (.List es pos) (tI g E (xLst fs)) :=
  ⟨fun pins s σ H Q I ⟨w, ρ, h, sr, o⟩ => (pe_lst ha).run pins s σ H Q I (tL_go sr o fun Vs H1 w1 ds h1 l sr1 rvs o1 => by
    split at o1
    · rename_i hz
      rw [rvs.length] at hz
      exact ⟨sz_le hz, o1.lst sr1.hr rvs⟩
    · exact o1.elim)⟩
theorem q_nlst (ha : PA X es (tL g E fs)) : PE X (.List es pos) (tI g E (xNlst fs)) :=
  ⟨fun pins s σ H Q I ⟨w, ρ, h, sr, o⟩ => (pe_lst ha).run pins s σ H Q I (tL_go sr o fun Vs H1 w1 ds h1 l sr1 rvs o1 => by
    split at o1
    · rename_i hz
      rw [rvs.length] at hz
      exact ⟨sz_le hz, o1.nlst sr1.hr rvs⟩
    · exact o1.elim)⟩
theorem q_dct0 : PE X (.Dict [] [] pos) (tI g E xDct0) := ⟨fun pins s σ H Q I ⟨w, ρ, h, sr, o⟩ => pe_dnewK.run pins s σ H Q I (OKg.dct (kvs := []) o sr.hr rfl .nil)⟩
theorem q_ndct0 : PE X (.Dict [] [] pos) (tI g E xNdct0) := ⟨fun pins s σ H Q I ⟨w, ρ, h, sr, o⟩ => pe_dnewK.run pins s σ H Q I (OKg.ndct (kvs := []) (kds := []) o sr.hr rfl .nil)⟩
theorem isB_go {α β : Type} {R' : Wd → Hp → α → β → Prop} {Q2 : β → Hp → Prop} {w : Wd} {H : Hp} {d : D} {h : Hh} {V : V} {k : Bool → Hh → Res α} (o : OKg g R' w H E Q2 ((isB d h).bind k)) (rv : RV g w H d V) : ∃ b, V = .bl b ∧ OKg g R' w H E Q2 (k b h) := by
  cases d with
  | bl b => cases rv; exact ⟨b, rfl, o⟩
  | _ => exact o.elim
theorem q_one {op : BoolOp} (ha : PE X a (tI g E fa)) : PE X (.BoolOp op [a] pos) (tI g E fa) := pe_one ha
theorem q_and {rest : List Expr} (ha : PE X a (tI g E fa)) (hb : PE X (.BoolOp .And (b :: rest) pos) (tI g E fb)) : PE X (.BoolOp .And (a :: b :: rest) pos) (tI g E (xAnd fa fb)) :=
  ⟨fun pins s σ H Q I ⟨w, ρ, h, sr, o⟩ => (pe_and ha hb).run pins s σ H Q I (tI_go sr o fun V H1 w1 a h1 l sr1 rv o1 => by
    obtain ⟨c, rfl, o2⟩ := isB_go o1 rv
    refine ⟨c, rfl, ?_⟩
    cases c with
    | true => exact ⟨w1, ρ, h1, sr1, o2⟩
    | false => exact o2.keep sr1.hr (.bl false))⟩
theorem q_or {rest : List Expr} (ha : PE X a (tI g E fa)) (hb : PE X (.BoolOp .Or (b :: rest) pos) (tI g E fb)) : PE X (.BoolOp .Or (a :: b :: rest) pos) (tI g E (xOr fa fb)) :=
  ⟨fun pins s σ H Q I ⟨w, ρ, h, sr, o⟩ => (pe_or ha hb).run pins s σ H Q I (tI_go sr o fun V H1 w1 a h1 l sr1 rv o1 => by
    obtain ⟨c, rfl, o2⟩ := isB_go o1 rv
    refine ⟨c, rfl, ?_⟩
    cases c with
    | false => exact ⟨w1, ρ, h1, sr1, o2⟩
    | true => exact o2.keep sr1.hr (.bl true))⟩
theorem q_not (ha : PE X a (tI g E fa)) : PE X (.UnaryOp .Not a pos) (tI g E (xNot fa)) :=
  ⟨fun pins s σ H Q I ⟨w, ρ, h, sr, o⟩ => (pe_not ha).run pins s σ H Q I (tI_go sr o fun V H1 w1 a h1 l sr1 rv o1 => by
    obtain ⟨c, rfl, o2⟩ := isB_go o1 rv
    exact ⟨c, rfl, o2.keep sr1.hr (.bl _)⟩)⟩
theorem q_ife {t : Ft} (ht : PT X c (tT g E t)) (ha : PE X a (tI g E fa)) (hb : PE X b (tI g E fb)) : PE X (.IfExp c a b pos) (tI g E (xIfe t fa fb)) :=
  ⟨fun pins s σ H Q I ⟨w, ρ, h, sr, o⟩ => (pe_ifExp ht ha hb).run pins s σ H Q I (tT_go sr o fun c H1 w1 h1 l sr1 o1 => by
    cases c with
    | true => exact ⟨w1, ρ, h1, sr1, o1⟩
    | false => exact ⟨w1, ρ, h1, sr1, o1⟩)⟩
theorem q_chain {op op' : CmpOp} {f f' : D → D → Hh → Res D} (ho : OpR X (compareOp op) (rD g E f)) (ho' : OpR X (compareOp op') (rD g E f')) (ha : PE X a (tI g E fa)) (hb : PE X b (tI g E fb)) (hc : PE X c (tI g E fc))
    (hp : PE X (.Compare a [op, op'] [b, c] pos) (tChain (rD g E f) (rD g E f') (tI g E fa) (tI g E fb) (tI g E fc))) : PE X (.Compare a [op, op'] [b, c] pos) (tI g E (xChain f f' fa fb fc)) :=
  ⟨fun pins s σ H Q I ⟨w, ρ, h, sr, o⟩ => hp.run pins s σ H Q I (tI_go sr o fun V H1 w1 a h1 l sr1 rv o1 => tI_go sr1 o1 fun V2 H2 w2 b h2 l2 sr2 rv2 o2 => ⟨w2, h2, a, b, sr2.hr, rv.mono l2, rv2,
    (OKg.bind o2).imp fun Z H3 ⟨w3, z, h3, l3, hr3, rz, o3⟩ => by
      obtain ⟨k, rfl, o4⟩ := isB_go o3 rz
      refine ⟨k, rfl, ?_⟩
      cases k with
      | true => exact tI_go (sr2.step l3 hr3) o4 fun V4 H4 w4 u h4 l4 sr4 rv4 o5 => ⟨w4, h4, b, u, sr4.hr, (rv2.mono l3).mono l4, rv4, o5⟩
      | false => exact o4.keep hr3 (.bl false)⟩)⟩
theorem q_idx (xo : XO g X) (ha : PE X a (tI g E fa)) (hb : PE X b (tI g E fb)) (hs : PlainIx b := by intro _ _; rfl) : PE X (.Subscript a b pos) (tI g E (xIdx fa fb)) :=
  ⟨fun pins s σ H Q I ⟨w, ρ, h, sr, o⟩ => (idx_ok xo ha hb hs).run pins s σ H Q I (tI_go sr o fun V H1 w1 a h1 l sr1 rv o1 => tI_go sr1 o1 fun V2 H2 w2 b h2 l2 sr2 rv2 o2 => ⟨w2, h2, a, b, sr2.hr, rv.mono l2, rv2, o2⟩)⟩
abbrev RO : Wd → Hp → Option Int → Option Int → Prop := fun _ _ a b => a = b
def tO (g : Gx) (E : XK) (f : Fo) : TO := fun σ H Q => ∃ w ρ h, SR g w ρ h σ H ∧ OKg g RO w H E Q (f ρ h)
theorem q_no : PO X none (tO g E xNo) := ⟨fun pins s σ H Q I ⟨w, ρ, h, sr, o⟩ => po_none.run pins s σ H Q I (o w H none (Later.refl w H) sr.hr rfl)⟩
theorem q_some (ha : PE X a (tI g E fa)) : PO X (some a) (tO g E (xSome fa)) := ⟨fun pins s σ H Q I ⟨w, ρ, h, sr, o⟩ => (po_some ha).run pins s σ H Q I (tI_go sr o fun V H1 w1 a h1 l sr1 rv o1 => by
  unfold isI at o1
  split at o1
  · cases rv
    exact ⟨_, rfl, o1 w1 H1 _ (Later.refl w1 H1) sr1.hr rfl⟩
  · exact o1.elim)⟩
theorem tO_go {α β : Type} {R' : Wd → Hp → α → β → Prop} {Q2 : β → Hp → Prop} {w : Wd} {ρ : Rho} {h : Hh} {σ : L2.St} {H : Hp} {f : Fo} {k : Option Int → Hh → Res α} (s : SR g w ρ h σ H) (o : OKg g R' w H E Q2 ((f ρ h).bind k)) {Q : Option Int → Hp → Prop}
    (hq : ∀ b H1 w1 h1, Later w H w1 H1 → SR g w1 ρ h1 σ H1 → OKg g R' w1 H1 E Q2 (k b h1) → Q b H1) : tO g E f σ H Q :=
  ⟨w, ρ, h, s, (OKg.bind (R := RO) o).imp fun b H1 ⟨w1, a, h1, l, hr, rv, o1⟩ => by cases rv; exact hq b H1 w1 h1 l (s.step l hr) o1⟩
theorem q_slc (xo : XO g X) {lo hi : Option Expr} {fl fh : Fo} (ha : PE X a (tI g E fa)) (hl : PO X lo (tO g E fl)) (hh : PO X hi (tO g E fh)) : PE X (.Subscript a (.Slice lo hi none p2) pos) (tI g E (xSlc fa fl fh)) :=
  ⟨fun pins s σ H Q I ⟨w, ρ, h, sr, o⟩ => (pe_slice (slc_ok xo) ha hl hh).run pins s σ H Q I (tI_go sr o fun V H1 w1 a h1 l sr1 rv o1 => tO_go sr1 o1 fun lo H2 w2 h2 l2 sr2 o2 => tO_go sr2 o2 fun hi H3 w3 h3 l3 sr3 o3 => ⟨w3, h3, a, sr3.hr, (rv.mono l2).mono l3, o3⟩)⟩
/-- a built-in function or type, called by its name -/
theorem q_bi (xo : XO g X) (bi : Bi) {x : Str} (hg : Gl X x) (hm : X.mg x = none) (hx : x = biN bi) (ha : PA X (a :: es) (tL g E fs)) (he : starEach (a :: es) X.env = (false, eval a X.env) :: starEach es X.env := by rfl)
    (hpl : (backTo pos (starEach es X.env)).any (·.1) = false := by rfl) : PE X (.Call (.Name x p) (a :: es) [] pos) (tI g E (xBi bi fs)) := by
  have hv : bootBuiltins x = some (biV bi) := by rw [hx]; exact bi_boot bi
  have hn : x ≠ "__name__" := by rw [hx]; cases bi <;> decide +kernel
  have hd : (x == ("__debug__" : Str)) = false := by rw [hx]; cases bi <;> decide +kernel
  have hp : PE X (.Call (.Name x p) (a :: es) [] pos) (tCB (rC g E (biS bi)) (tL g E fs)) := by
    have hc := bi_ok (E := E) xo bi
    cases bi <;> first | exact pe_callB hc hg hm hv ha hn hd he hpl | exact pe_callTy hc hg hm hv ha hn hd he hpl
  exact ⟨fun pins s σ H Q I ⟨w, ρ, h, sr, o⟩ => hp.run pins s σ H Q I (tL_go sr o fun Vs H1 w1 ds h1 l sr1 rvs o1 => ⟨w1, h1, ds, sr1.hr, rvs, o1⟩)⟩
theorem q_tv {e : Expr} (ha : PE X e (tI g E fa)) (he : ∀ whole, isTrue e X.env whole = (do let v ← whole; standAt e.pos; holding [v] (truthy v)) := by intro _; rfl) : PT X e (tT g E (yV fa)) :=
  ⟨fun pins s σ H Q I ⟨w, ρ, h, sr, o⟩ => (pt_val ha he).run pins s σ H Q I (tI_go (k := fun x h1 => isB x h1) sr o fun V H1 w1 a h1 l sr1 rv o1 => by
    unfold isB at o1
    split at o1
    · cases rv
      exact ⟨_, rfl, o1 w1 H1 _ (Later.refl w1 H1) sr1.hr rfl⟩
    · exact o1.elim)⟩
theorem q_tcmp {op : CmpOp} {f : D → D → Hh → Res D} (ho : OpR X (compareOp op) (rD g E f)) (ha : PE X a (tI g E fa)) (hb : PE X b (tI g E fb)) (hm : behindInMarks op b = false := by rfl) : PT X (.Compare a [op] [b] pos) (tT g E (yV (xBin f fa fb))) :=
  ⟨fun pins s σ H Q I ⟨w, ρ, h, sr, o⟩ => by
    refine (pt_cmpR ho ha hb hm).run pins s σ H Q I ?_
    have o' : OKg g (RV g) w H E (fun V H1 => ∃ k, V = .bl k ∧ Q k H1) (xBin f fa fb ρ h) := (OKg.bind (R := RV g) o).imp fun V H1 ⟨w1, x, h1, l, hr, rv, o1⟩ => by
      unfold isB at o1
      split at o1
      · cases rv
        exact ⟨_, rfl, o1 w1 H1 _ (Later.refl w1 H1) hr rfl⟩
      · exact o1.elim
    exact tI_go sr o' fun V H1 w1 a h1 l sr1 rv o1 => tI_go sr1 o1 fun V2 H2 w2 b h2 l2 sr2 rv2 o2 => ⟨w2, h2, a, b, sr2.hr, rv.mono l2, rv2, o2⟩⟩
theorem q_tnot {t : Ft} (ha : PT X a (tT g E t)) : PT X (.UnaryOp .Not a pos) (tT g E (yNot t)) :=
  ⟨fun pins s σ H Q I ⟨w, ρ, h, sr, o⟩ => (pt_not ha).run pins s σ H Q I (tT_go sr o fun c H1 w1 h1 l sr1 o1 => o1 w1 H1 _ (Later.refl w1 H1) sr1.hr rfl)⟩
theorem q_tand {rest : List Expr} {t u : Ft} (ha : PT X a (tT g E t)) (hb : PW X (.BoolOp .And (b :: rest) pos) (tT g E u)) : PW X (.BoolOp .And (a :: b :: rest) pos) (tT g E (yAnd t u)) :=
  ⟨fun wh pins s σ H Q I ⟨w, ρ, h, sr, o⟩ => (pw_and ha hb).run wh pins s σ H Q I (tT_go sr o fun c H1 w1 h1 l sr1 o1 => by
    cases c with
    | true => exact ⟨w1, ρ, h1, sr1, o1⟩
    | false => exact o1 w1 H1 _ (Later.refl w1 H1) sr1.hr rfl)⟩
theorem q_tor {rest : List Expr} {t u : Ft} (ha : PT X a (tT g E t)) (hb : PW X (.BoolOp .Or (b :: rest) pos) (tT g E u)) : PW X (.BoolOp .Or (a :: b :: rest) pos) (tT g E (yOr t u)) :=
  ⟨fun wh pins s σ H Q I ⟨w, ρ, h, sr, o⟩ => (pw_or ha hb).run wh pins s σ H Q I (tT_go sr o fun c H1 w1 h1 l sr1 o1 => by
    cases c with
    | false => exact ⟨w1, ρ, h1, sr1, o1⟩
    | true => exact o1 w1 H1 _ (Later.refl w1 H1) sr1.hr rfl)⟩
theorem q_tchain {op op' : CmpOp} {f f' : D → D → Hh → Res D} (ha : PE X a (tI g E fa)) (hb : PE X b (tI g E fb)) (hc : PE X c (tI g E fc))
    {tt : TT} (hp : PT X (.Compare a [op, op'] [b, c] pos) tt) (hq : ∀ σ H Q, tI g E (xChain f f' fa fb fc) σ H (fun V H1 => ∃ k, V = .bl k ∧ Q k H1) → tt σ H Q) : PT X (.Compare a [op, op'] [b, c] pos) (tT g E (yV (xChain f f' fa fb fc))) :=
  ⟨fun pins s σ H Q I ⟨w, ρ, h, sr, o⟩ => by
    refine hp.run pins s σ H Q I (hq σ H Q ⟨w, ρ, h, sr, ?_⟩)
    exact (OKg.bind (R := RV g) o).imp fun V H1 ⟨w1, x, h1, l, hr, rv, o1⟩ => by
      unfold isB at o1
      split at o1
      · cases rv
        exact ⟨_, rfl, o1 w1 H1 _ (Later.refl w1 H1) hr rfl⟩
      · exact o1.elim⟩
end
end Ax
namespace Ax
open PySem PySem.Spec PyProof.Rows L2

inductive SRes where
  | nx (ρ : Rho) (h : Hh)
  | rt (d : D) (h : Hh)
  | bk (ρ : Rho) (h : Hh)
  | ct (ρ : Rho) (h : Hh)
  | exc (c : Str) (ds : List D) (h : Hh)
  | bad
abbrev Fs := Rho → Hh → SRes
def OKs (g : Gx) (w : Wd) (H : Hp) (E : XK) (Dn : Ends) : SRes → Prop
  | .nx ρ h => ∀ w' H' σ', Later w H w' H' → SR g w' ρ h σ' H' → Dn.nx σ' H'
  | .rt d h => ∀ w' H' v, Later w H w' H' → HR g w' h H' → RV g w' H' d v → Dn.rt v H'
  | .bk ρ h => ∀ w' H' σ', Later w H w' H' → SR g w' ρ h σ' H' → Dn.bk σ' H'
  | .ct ρ h => ∀ w' H' σ', Later w H w' H' → SR g w' ρ h σ' H' → Dn.ct σ' H'
  | .exc c ds h => ∀ w' H' C d, Later w H w' H' → HR g w' h H' → XR g w' H' c ds C d → E (.ref C) d H'
  | .bad => False
def tS (g : Gx) (E : XK) (f : Fs) : TS := fun Dn σ H => ∃ w ρ h, SR g w ρ h σ H ∧ OKs g w H E Dn (f ρ h)
/-- an expression ahead of the rest of a statement -/
def SRes.of {α : Type} (r : Res α) (k : α → Hh → SRes) : SRes := match r with
  | .ok a h => k a h
  | .exc c ds h => .exc c ds h
  | .bad => .bad
@[simp] theorem SRes.of_ok {α : Type} (a : α) (h : Hh) (k : α → Hh → SRes) : SRes.of (.ok a h) k = k a h := rfl
section
variable {α β : Type} {g : Gx} {E : XK} {X : Cx} {w w' : Wd} {ρ : Rho} {h : Hh} {σ : L2.St} {H H' : Hp} {Dn Dn' : Ends}
theorem OKs.mono {r : SRes} (l : Later w H w' H') (o : OKs g w H E Dn r) : OKs g w' H' E Dn r := by
  cases r with
  | nx ρ h => exact fun w2 H2 σ l2 => o w2 H2 σ (l.trans l2)
  | rt d h => exact fun w2 H2 v l2 => o w2 H2 v (l.trans l2)
  | bk ρ h => exact fun w2 H2 σ l2 => o w2 H2 σ (l.trans l2)
  | ct ρ h => exact fun w2 H2 σ l2 => o w2 H2 σ (l.trans l2)
  | exc c ds h => exact fun w2 H2 C d l2 => o w2 H2 C d (l.trans l2)
  | bad => exact o
theorem OKs.of {R : Wd → Hp → α → β → Prop} {r : Res α} {k : α → Hh → SRes} (o : OKs g w H E Dn (SRes.of r k)) :
    OKg g R w H E (fun b H1 => ∃ w1 a h1, Later w H w1 H1 ∧ HR g w1 h1 H1 ∧ R w1 H1 a b ∧ OKs g w1 H1 E Dn (k a h1)) r := by
  cases r with
  | ok a h => exact fun w2 H2 b l2 hr rv => ⟨w2, a, h, l2, hr, rv, OKs.mono l2 o⟩
  | exc c ds h => exact o
  | bad => exact o
theorem sI_go {f : Fn} {k : D → Hh → SRes} (s : SR g w ρ h σ H) (o : OKs g w H E Dn (SRes.of (f ρ h) k)) {Q : VK}
    (hq : ∀ V H1 w1 a h1, Later w H w1 H1 → SR g w1 ρ h1 σ H1 → RV g w1 H1 a V → OKs g w1 H1 E Dn (k a h1) → Q V H1) : tI g E f σ H Q :=
  ⟨w, ρ, h, s, (OKs.of o).imp fun V H1 ⟨w1, a, h1, l, hr, rv, o1⟩ => hq V H1 w1 a h1 l (s.step l hr) rv o1⟩
theorem sT_go {f : Ft} {k : Bool → Hh → SRes} (s : SR g w ρ h σ H) (o : OKs g w H E Dn (SRes.of (f ρ h) k)) {Q : Bool → Hp → Prop}
    (hq : ∀ b H1 w1 h1, Later w H w1 H1 → SR g w1 ρ h1 σ H1 → OKs g w1 H1 E Dn (k b h1) → Q b H1) : tT g E f σ H Q :=
  ⟨w, ρ, h, s, (OKs.of (R := RB) o).imp fun b H1 ⟨w1, a, h1, l, hr, rv, o1⟩ => by cases rv; exact hq b H1 w1 h1 l (s.step l hr) o1⟩
theorem sL_go {f : Fl} {k : List D → Hh → SRes} (s : SR g w ρ h σ H) (o : OKs g w H E Dn (SRes.of (f ρ h) k)) {Q : List V → Hp → Prop}
    (hq : ∀ Vs H1 w1 ds h1, Later w H w1 H1 → SR g w1 ρ h1 σ H1 → RVs g w1 H1 ds Vs → OKs g w1 H1 E Dn (k ds h1) → Q Vs H1) : tL g E f σ H Q :=
  ⟨w, ρ, h, s, (OKs.of o).imp fun V H1 ⟨w1, a, h1, l, hr, rv, o1⟩ => hq V H1 w1 a h1 l (s.step l hr) rv o1⟩
end

def zNext : Fs := fun ρ h => .nx ρ h
def zSeq (a b : Fs) : Fs := fun ρ h => match a ρ h with
  | .nx ρ1 h1 => b ρ1 h1
  | r => r
def zSet (i : Nat) (a : Fn) : Fs := fun ρ h => SRes.of (a ρ h) fun d h1 => .nx (ρ.set i (some d)) h1
def zIf (t : Ft) (a b : Fs) : Fs := fun ρ h => SRes.of (t ρ h) fun c h1 => if c then a ρ h1 else b ρ h1
def zRet (a : Fn) : Fs := fun ρ h => SRes.of (a ρ h) fun d h1 => .rt d h1
def zRetN : Fs := fun _ h => .rt .non h
def zExpr (a : Fn) : Fs := fun ρ h => SRes.of (a ρ h) fun _ h1 => .nx ρ h1
def zBreak : Fs := fun ρ h => .bk ρ h
def zCont : Fs := fun ρ h => .ct ρ h
def zNever : Fs := fun _ _ => .bad
/-- a, b = x, y by names -/
def zPar (i j : Nat) (a : Fl) : Fs := fun ρ h => SRes.of (a ρ h) fun ds h1 => match ds with
  | [d, e] => .nx ((ρ.set i (some d)).set j (some e)) h1
  | _ => .bad
/-- targets -/
abbrev Fg := D → Rho → Option Rho
def gN (i : Nat) : Fg := fun d ρ => some (ρ.set i (some d))
def gT2 (i j : Nat) : Fg := fun d ρ => match d with | .tup [a, b] => some ((ρ.set i (some a)).set j (some b)) | _ => none
def gT3 (i j k : Nat) : Fg := fun d ρ => match d with | .tup [a, b, c] => some (((ρ.set i (some a)).set j (some b)).set k (some c)) | _ => none
def zAsg (t : Fg) (a : Fn) : Fs := fun ρ h => SRes.of (a ρ h) fun d h1 => match t d ρ with | some ρ1 => .nx ρ1 h1 | none => .bad
/-- items -/
def setAt (o i v : D) (h : Hh) : Option Hh := match o, i with
  | .ref n, .int j => match h[n]? with
    | some (.lst ds) => match ixN ds.length j with
      | some k => some (h.set n (.lst (ds.set k v)))
      | none => none
    | _ => none
  | _, _ => none
def zSetIx (o i v : Fn) : Fs := fun ρ h => SRes.of (v ρ h) fun v h1 => SRes.of (o ρ h1) fun o h2 => SRes.of (i ρ h2) fun i h3 => match setAt o i v h3 with | some h4 => .nx ρ h4 | none => .bad
/-- += of ints -/
def iaddD (a b : D) (h : Hh) : Res D := match a, b with
  | .int i, .int j => .ok (.int (i + j)) h
  | _, _ => .bad
/-- an item of a list, its place not negative -/
def lgetD (a b : D) (h : Hh) : Res D := match asL h a, b with
  | some ds, .int i => if decide (0 ≤ i) && decide (i < 2 ^ 63) then (match ds[i.toNat]? with | some d => .ok d h | none => .bad) else .bad
  | _, _ => .bad
def zAugIx (op : D → D → Hh → Res D) (o i v : Fn) : Fs := fun ρ h => SRes.of (o ρ h) fun o h1 => SRes.of (i ρ h1) fun i h2 => SRes.of (lgetD o i h2) fun x h3 => SRes.of (v ρ h3) fun y h4 => SRes.of (op x y h4) fun z h5 => match setAt o i z h5 with | some h6 => .nx ρ h6 | none => .bad
/-- loops -/
def loopS (t : Fg) (b : Fs) : List D → Rho → Hh → SRes
  | [], ρ, h => .nx ρ h
  | d :: ds, ρ, h => match t d ρ with
    | none => .bad
    | some ρ1 => match b ρ1 h with
      | .nx ρ2 h2 => loopS t b ds ρ2 h2
      | .ct ρ2 h2 => loopS t b ds ρ2 h2
      | .bk ρ2 h2 => .nx ρ2 h2
      | r => r
def zFor (it : Fl) (t : Fg) (b : Fs) : Fs := fun ρ h => SRes.of (it ρ h) fun ds h1 => loopS t b ds ρ h1

section
variable {g : Gx} {E : XK} {X : Cx} {a b c e tg iter : Expr} {pos p p2 : Pos} {fa fb fc : Fn} {es : List Expr} {fs : Fl} {st : Stmt} {sts : List Stmt} {za zb : Fs}
theorem q_snil : PSs X [] (tS g E zNext) := ⟨fun pins s σ H D I ⟨w, ρ, h, sr, o⟩ => pss_nil.run pins s σ H D I (o w H σ (Later.refl w H) sr)⟩
theorem q_seq (h1 : PS X st (tS g E za)) (h2 : PSs X sts (tS g E zb)) : PSs X (st :: sts) (tS g E (zSeq za zb)) :=
  ⟨fun pins s σ H D I ⟨w, ρ, h, sr, o⟩ => (pss_cons h1 h2).run pins s σ H D I ⟨w, ρ, h, sr, by
    unfold zSeq at o
    cases q : za ρ h with
    | nx ρ1 h1 => rw [q] at o; exact fun w' H' σ' l sr' => ⟨w', ρ1, h1, sr', OKs.mono l o⟩
    | rt d h1 => rw [q] at o; exact o
    | bk ρ1 h1 => rw [q] at o; exact o
    | ct ρ1 h1 => rw [q] at o; exact o
    | exc c ds h1 => rw [q] at o; exact o
    | bad => rw [q] at o; exact o⟩⟩
theorem q_sone (h1 : PS X st (tS g E za)) : PSs X [st] (tS g E za) := pss_one h1
theorem q_pass : PS X (.Pass pos) (tS g E zNext) := ⟨fun pins s σ H D I ⟨w, ρ, h, sr, o⟩ => ps_pass.run pins s σ H D I (o w H σ (Later.refl w H) sr)⟩
theorem q_break : PS X (.Break pos) (tS g E zBreak) := ⟨fun pins s σ H D I ⟨w, ρ, h, sr, o⟩ => ps_break.run pins s σ H D I (o w H σ (Later.refl w H) sr)⟩
theorem q_continue : PS X (.Continue pos) (tS g E zCont) := ⟨fun pins s σ H D I ⟨w, ρ, h, sr, o⟩ => ps_continue.run pins s σ H D I (o w H σ (Later.refl w H) sr)⟩
theorem q_ret (ha : PE X a (tI g E fa)) : PS X (.Return (some a) pos) (tS g E (zRet fa)) :=
  ⟨fun pins s σ H D I ⟨w, ρ, h, sr, o⟩ => (ps_ret ha).run pins s σ H D I (sI_go sr o fun V H1 w1 d h1 l sr1 rv o1 => o1 w1 H1 V (Later.refl w1 H1) sr1.hr rv)⟩
theorem q_retN : PS X (.Return none pos) (tS g E zRetN) := ⟨fun pins s σ H D I ⟨w, ρ, h, sr, o⟩ => ps_retN.run pins s σ H D I (o w H .non (Later.refl w H) sr.hr .non)⟩
theorem q_if {t : Ft} {A B : List Stmt} (ht : PT X c (tT g E t)) (ha : PSs X A (tS g E za)) (hb : PSs X B (tS g E zb)) : PS X (.If c A B pos) (tS g E (zIf t za zb)) :=
  ⟨fun pins s σ H D I ⟨w, ρ, h, sr, o⟩ => (ps_if ht ha hb).run pins s σ H D I (sT_go sr o fun k H1 w1 h1 l sr1 o1 => by
    cases k with
    | true => exact ⟨w1, ρ, h1, sr1, o1⟩
    | false => exact ⟨w1, ρ, h1, sr1, o1⟩)⟩
theorem q_expr (hp : ∀ {te : TE}, PE X a te → PS X (.Expr a pos) (tDrop te)) (ha : PE X a (tI g E fa)) : PS X (.Expr a pos) (tS g E (zExpr fa)) :=
  ⟨fun pins s σ H D I ⟨w, ρ, h, sr, o⟩ => (hp ha).run pins s σ H D I (sI_go sr o fun V H1 w1 d h1 l sr1 rv o1 => o1 w1 H1 σ (Later.refl w1 H1) sr1)⟩
/-- name = value, by any rule of the layer for it -/
theorem q_set {i : Nat} {tgs : List Expr} {t : TE} (hp : PS X (.Assign tgs a pos) (tAsg t (gName i))) (ht : ∀ σ H Q, tI g E fa σ H Q → t σ H Q) : PS X (.Assign tgs a pos) (tS g E (zSet i fa)) :=
  ⟨fun pins s σ H D I ⟨w, ρ, h, sr, o⟩ => hp.run pins s σ H D I (ht _ _ _ (sI_go sr o fun V H1 w1 d h1 l sr1 rv o1 => o1 w1 H1 _ (Later.refl w1 H1) (sr1.set rv i)))⟩
theorem q_par {i j : Nat} {tgs : List Expr} (hp : PS X (.Assign tgs a pos) (tPar i j (tL g E fs))) : PS X (.Assign tgs a pos) (tS g E (zPar i j fs)) :=
  ⟨fun pins s σ H D I ⟨w, ρ, h, sr, o⟩ => hp.run pins s σ H D I (sL_go sr o fun Vs H1 w1 ds h1 l sr1 rvs o1 => by
    split at o1
    · obtain ⟨x, y, rfl, rx, ry⟩ := rvs2 rvs
      exact ⟨x, y, rfl, o1 w1 H1 _ (Later.refl w1 H1) ((sr1.set rx i).set ry j)⟩
    · exact o1.elim)⟩
theorem wipe_set (x : Option V) (i : Nat) : ∀ (σ : L2.St) (vs : List Nat), wipe (σ.set i x) vs = if i ∈ vs then wipe σ vs else (wipe σ vs).set i x
  | σ, [] => by simp [wipe]
  | σ, v :: vs => by
    show (wipe (σ.set i x) vs).set v none = _
    rw [wipe_set x i σ vs]
    by_cases h : i ∈ vs
    · rw [if_pos h, if_pos (List.mem_cons_of_mem _ h)]; rfl
    · rw [if_neg h]
      by_cases e : i = v
      · subst e
        rw [if_pos (List.mem_cons_self ..), List.set_set]; rfl
      · rw [if_neg (by simp [e, h]), List.set_comm _ _ e]; rfl
theorem wipe_in {x : Option V} {i : Nat} {σ : L2.St} {vs : List Nat} (h : i ∈ vs) : wipe (σ.set i x) vs = wipe σ vs := by rw [wipe_set, if_pos h]
/-- f stores into the slots is alone -/
def tG (g : Gx) (is : List Nat) (f : Fg) : TG := fun v σ H Q => ∃ w ρ h d ρ', SR g w ρ h σ H ∧ RV g w H d v ∧ f d ρ = some ρ' ∧ ∀ σ', SR g w ρ' h σ' H → (∀ vs, (∀ i ∈ is, i ∈ vs) → wipe σ' vs = wipe σ vs) → Q σ' H
theorem q_gn {i : Nat} {x : Str} (hp : PG X (.Name x pos) (gName i)) : PG X (.Name x pos) (tG g [i] (gN i)) :=
  ⟨fun pins s σ H v u Q I r ⟨w, ρ, h, d, ρ', sr, rv, e, q⟩ => hp.run pins s σ H v u Q I r (by
    simp only [gN, Option.some.injEq] at e
    subst e
    exact q _ (sr.set rv i) fun vs hv => wipe_in (hv i (by simp)))⟩
theorem q_gt2 {i j k : Nat} {es : List Expr} (hp : PG X (.Tuple es k pos) (gTup X.K 2 (gCons (gName i) (gCons (gName j) gNil)))) : PG X (.Tuple es k pos) (tG g [i, j] (gT2 i j)) :=
  ⟨fun pins s σ H v u Q I r ⟨w, ρ, h, d, ρ', sr, rv, e, q⟩ => hp.run pins s σ H v u Q I r (by
    unfold gT2 at e
    split at e
    · cases e
      obtain ⟨a, vs, rfl, hp, t⟩ := rv_tup rv
      obtain ⟨x, y, rfl, rx, ry⟩ := rvs2 t
      exact ⟨a, _, rfl, .inl (.inl hp), rfl, _, _, rfl, _, _, rfl, rfl, q _ ((sr.set rx i).set ry j) fun vs hv => (wipe_in (hv j (by simp))).trans (wipe_in (hv i (by simp)))⟩
    · cases e)⟩
theorem q_gt3 {i j l k : Nat} {es : List Expr} (hp : PG X (.Tuple es k pos) (gTup X.K 3 (gCons (gName i) (gCons (gName j) (gCons (gName l) gNil))))) : PG X (.Tuple es k pos) (tG g [i, j, l] (gT3 i j l)) :=
  ⟨fun pins s σ H v u Q I r ⟨w, ρ, h, d, ρ', sr, rv, e, q⟩ => hp.run pins s σ H v u Q I r (by
    unfold gT3 at e
    split at e
    · cases e
      obtain ⟨a, vs, rfl, hp, t⟩ := rv_tup rv
      cases t with
      | cons r1 t =>
        obtain ⟨x, y, rfl, rx, ry⟩ := rvs2 t
        exact ⟨a, _, rfl, .inl (.inl hp), rfl, _, _, rfl, _, _, rfl, _, _, rfl, rfl, q _ (((sr.set r1 i).set rx j).set ry l) fun vs hv => ((wipe_in (hv l (by simp))).trans (wipe_in (hv j (by simp)))).trans (wipe_in (hv i (by simp)))⟩
    · cases e)⟩
theorem q_asg {is : List Nat} {t : Fg} {tgs : List Expr} (hp : PS X (.Assign tgs a pos) (tAsg (tI g E fa) (tG g is t))) : PS X (.Assign tgs a pos) (tS g E (zAsg t fa)) :=
  ⟨fun pins s σ H D I ⟨w, ρ, h, sr, o⟩ => hp.run pins s σ H D I (sI_go sr o fun V H1 w1 d h1 l sr1 rv o1 => by
    split at o1
    · rename_i e
      exact ⟨w1, ρ, h1, d, _, sr1, rv, e, fun σ' sr' _ => o1 w1 H1 σ' (Later.refl w1 H1) sr'⟩
    · exact o1.elim)⟩
def tSetD (g : Gx) : TSet := fun o i v H Q => ∃ w h a b c h', HR g w h H ∧ RV g w H a o ∧ RV g w H b i ∧ RV g w H c v ∧ setAt a b c h = some h' ∧ ∀ w' H', Later w H w' H' → HR g w' h' H' → Q H'
theorem set_ok : PSet X (tSetD g) := by
  intro pins s σ H o i v ov iv u Q I r1 r2 r3 ⟨w, h, a, b, c, h', hr, ra, rb, rc, e, q⟩
  unfold setAt at e
  split at e
  · rename_i n j
    cases rb
    split at e
    · rename_i ds e1
      split at e
      · rename_i k e2
        cases e
        cases ra with
        | @ref _ p hp =>
          obtain ⟨nF, vs, e3, t⟩ := hr.ob n _ p e1 hp
          have mu : Mut (H p) := by rw [e3]; trivial
          refine set_list pins s σ H _ _ _ ov iv u Q I r1 r2 r3 ⟨p, vs, j, k, rfl, rfl, e3, by rw [← t.length]; exact e2, ?_⟩
          have l := later_put (o' := .lst (ds.set k c)) (ho := .lst (vs.set k v)) hr e1 hp nF mu
          exact q w _ l (hr_put hr e1 hp nF mu ⟨nF, _, upd_same, (t.set k rc).mono l⟩)
      · cases e
    · cases e
  · cases e
theorem q_setix {o i v : Expr} {fo fi fv : Fn} (hp : PS X (.Assign [.Subscript o i p2] v pos) (tAsg (tI g E fv) (gSub (tI g E fo) (tI g E fi) (tSetD g)))) : PS X (.Assign [.Subscript o i p2] v pos) (tS g E (zSetIx fo fi fv)) :=
  ⟨fun pins s σ H D I ⟨w, ρ, h, sr, o⟩ => hp.run pins s σ H D I (sI_go sr o fun V H1 w1 d1 h1 l1 sr1 rv1 o1 => sI_go sr1 o1 fun V2 H2 w2 d2 h2 l2 sr2 rv2 o2 => sI_go sr2 o2 fun V3 H3 w3 d3 h3 l3 sr3 rv3 o3 => by
    split at o3
    · rename_i e
      exact ⟨w3, h3, d2, d3, d1, _, sr3.hr, rv2.mono l3, rv3, (rv1.mono l2).mono l3, e, fun w' H' l hr => o3 w' H' σ l (sr3.step l hr)⟩
    · exact o3.elim)⟩
theorem get_ok : PGet X (rD g E lgetD) := by
  intro pins s σ H o i ov iv Q I r1 r2 ⟨w, h, d, e, hr, rd, re, q⟩
  unfold lgetD at q
  split at q
  · rename_i e1
    cases re
    split at q
    · rename_i hz
      simp only [Bool.and_eq_true, decide_eq_true_eq] at hz
      split at q
      · rename_i e2
        obtain ⟨p, vs, rfl, hp, t⟩ := asL_ok e1 hr rd
        obtain ⟨v, e3, rv⟩ := t.get e2
        cases r1
        obtain ⟨tk, rfl⟩ := r2
        obtain ⟨its, n, r, ho, _⟩ := lst_at I.hok hp
        obtain ⟨u, e4, ru⟩ := r.get e3
        exact wpAny_getItem_list (items := its.toArray) ⟨_, ho, rfl, n, rfl⟩ hz.1 hz.2 (by simpa using e4) ⟨v, H, I, ru, q.keep hr rv⟩
      · exact q.elim
    · exact q.elim
  · exact q.elim
theorem ipadd_ok : PIp X .Add (rD g E iaddD) := by
  intro pins s σ H x y v u Q I r1 r2 ⟨w, h, a, b, hr, ra, rb, q⟩
  unfold iaddD at q
  split at q
  · cases ra; cases rb
    exact ip_add pins s σ H _ _ v u Q I r1 r2 ⟨_, _, rfl, rfl, q.keep hr (.int _)⟩
  · exact q.elim
theorem q_augix {op : Operator} {f : D → D → Hh → Res D} {o i v : Expr} {fo fi fv : Fn} (hp : PS X (.AugAssign (.Subscript o i p2) op v pos) (tAugS (tI g E fo) (tI g E fi) (tI g E fv) (rD g E lgetD) (rD g E f) (tSetD g))) : PS X (.AugAssign (.Subscript o i p2) op v pos) (tS g E (zAugIx f fo fi fv)) :=
  ⟨fun pins s σ H D I ⟨w, ρ, h, sr, o⟩ => hp.run pins s σ H D I (sI_go sr o fun V1 H1 w1 d1 h1 l1 sr1 rv1 o1 => sI_go sr1 o1 fun V2 H2 w2 d2 h2 l2 sr2 rv2 o2 => ⟨w2, h2, d1, d2, sr2.hr, rv1.mono l2, rv2,
    (OKs.of o2).imp fun V3 H3 ⟨w3, d3, h3, l3, hr3, rv3, o3⟩ => sI_go (sr2.step l3 hr3) o3 fun V4 H4 w4 d4 h4 l4 sr4 rv4 o4 => ⟨w4, h4, d3, d4, sr4.hr, rv3.mono l4, rv4,
      (OKs.of o4).imp fun V5 H5 ⟨w5, d5, h5, l5, hr5, rv5, o5⟩ => by
        split at o5
        · rename_i e
          exact ⟨w5, h5, d1, d2, d5, _, hr5, (((rv1.mono l2).mono l3).mono l4).mono l5, ((rv2.mono l3).mono l4).mono l5, rv5, e, fun w' H' l hr => o5 w' H' σ l ((sr4.step l5 hr5).step l hr)⟩
        · exact o5.elim⟩⟩)⟩
/-- the walk yields ds -/
def JOk (g : Gx) (J : It) (w : Wd) (H : Hp) (ds : List D) : Prop := ∀ w' H' h', Lv w H w' H' → HR g w' h' H' → ∀ i : Nat,
  (∀ d, ds[i]? = some d → J.go i H' ∧ ∀ x H'', J.yld i H' x H'' → ∃ w'', Later w' H' w'' H'' ∧ HR g w'' h' H'' ∧ RV g w'' H'' d x) ∧ (ds[i]? = none → J.stop i H')
abbrev RJ (g : Gx) : Wd → Hp → List D → It → Prop := fun w H ds J => JOk g J w H ds
def tIt (g : Gx) (E : XK) (f : Fl) : TI := fun σ H R => ∃ w ρ h, SR g w ρ h σ H ∧ OKg g (RJ g) w H E R (f ρ h)
def itemsD (d : D) (h : Hh) : Res (List D) := match d with
  | .lst ds => .ok ds h
  | .tup ds => .ok ds h
  | .str x => .ok (x.cps.toList.map fun c => .str ⟨#[c]⟩) h
  | _ => .bad
def iV (a : Fn) : Fl := fun ρ h => (a ρ h).bind fun d h1 => itemsD d h1
theorem jok_list {K : PySem.W.Frag} {w : Wd} {H : Hp} {a : Addr} {vs : List V} {ds : List D} (hp : H a = some (.lst vs)) (hF : w.F a) (t : RVs g w H ds vs) : JOk g (Itl K a) w H ds := fun w' H' h' l hr i => by
  have e := l.lst a vs hF hp
  refine ⟨fun d hd => ?_, fun hd => ?_⟩
  · obtain ⟨v, e1, rv⟩ := (t.mono0 l).get hd
    refine ⟨⟨vs, v, .inl (.inl e), e1⟩, fun x H'' y => ?_⟩
    obtain ⟨rfl, y⟩ := y
    have e2 := y vs (.inl (.inl e))
    rw [e1] at e2
    cases e2
    exact ⟨w', Later.refl _ _, hr, rv⟩
  · exact ⟨vs, .inl (.inl e), by rw [← t.length]; exact List.getElem?_eq_none_iff.mp hd⟩
theorem jok_tup {K : PySem.W.Frag} {w : Wd} {H : Hp} {a : Addr} {vs : List V} {ds : List D} (hp : H a = some (.tup vs)) (t : RVs g w H ds vs) : JOk g (Itt K a) w H ds := fun w' H' h' l hr i => by
  have e := l.tup a vs hp
  refine ⟨fun d hd => ?_, fun hd => ?_⟩
  · obtain ⟨v, e1, rv⟩ := (t.mono0 l).get hd
    refine ⟨⟨vs, v, .inl (.inl e), e1⟩, fun x H'' y => ?_⟩
    obtain ⟨rfl, y⟩ := y
    have e2 := y vs (.inl (.inl e))
    rw [e1] at e2
    cases e2
    exact ⟨w', Later.refl _ _, hr, rv⟩
  · exact ⟨vs, .inl (.inl e), by rw [← t.length]; exact List.getElem?_eq_none_iff.mp hd⟩
theorem jok_str {w : Wd} {H : Hp} {x : Str} : JOk g (Its x) w H (x.cps.toList.map fun c => .str ⟨#[c]⟩) := fun w' H' h' l hr i => by
  refine ⟨fun d hd => ?_, fun hd => ?_⟩
  · rw [List.getElem?_map, Option.map_eq_some_iff] at hd
    obtain ⟨c, e, rfl⟩ := hd
    rw [Array.getElem?_toList] at e
    refine ⟨(Array.getElem?_eq_some_iff.mp e).1, fun v H'' y => ?_⟩
    obtain ⟨rfl, c', e', rfl⟩ := y
    rw [e] at e'
    cases e'
    exact ⟨w', Later.refl _ _, hr, .str _⟩
  · rw [List.getElem?_map, Option.map_eq_none_iff, Array.getElem?_toList] at hd
    exact Array.getElem?_eq_none_iff.mp hd
theorem q_it (ha : PE X a (tI g E fa)) : PI X tg a (tIt g E (iV fa)) := ⟨fun pins s σ H R I ⟨w, ρ, h, sr, o⟩ => by
  -- which rule depends on the value: decide it by running the tree first
  unfold iV at o
  cases q : fa ρ h with
  | bad => rw [q] at o; exact o.elim
  | exc c ds h1 =>
    rw [q] at o
    exact (pi_list ha).run pins s σ H R I ⟨w, ρ, h, sr, by rw [q]; exact o⟩
  | ok d h1 =>
    rw [q] at o
    have o : OKg g (RJ g) w H E R (itemsD d h1) := o
    unfold itemsD at o
    split at o
    · rename_i ds
      refine (pi_list ha).run pins s σ H R I ⟨w, ρ, h, sr, ?_⟩
      rw [q]
      intro w' H' V l hr rv
      cases rv with
      | lst hp hF t => exact ⟨_, rfl, ⟨_, .inl (.inl hp)⟩, o w' H' _ l hr (jok_list hp hF t)⟩
    · rename_i ds
      refine (pi_tup ha).run pins s σ H R I ⟨w, ρ, h, sr, ?_⟩
      rw [q]
      intro w' H' V l hr rv
      obtain ⟨p, vs, rfl, hp, t⟩ := rv_tup rv
      exact ⟨_, rfl, ⟨_, .inl (.inl hp)⟩, o w' H' _ l hr (jok_tup hp t)⟩
    · rename_i x
      refine (pi_str ha).run pins s σ H R I ⟨w, ρ, h, sr, ?_⟩
      rw [q]
      intro w' H' V l hr rv
      cases rv
      exact ⟨_, rfl, o w' H' _ l hr jok_str⟩
    · exact o.elim⟩
def rng1D (ds : List D) (h : Hh) : Res (List D) := match ds with
  | [.int j] => if decide (-(2 ^ 62) ≤ j) && decide (j < 2 ^ 62) then .ok ((List.range j.toNat).map fun (k : Nat) => .int (0 + (k : Int))) h else .bad
  | _ => .bad
def rng2D (ds : List D) (h : Hh) : Res (List D) := match ds with
  | [.int i, .int j] => if decide (-(2 ^ 62) ≤ i) && decide (i < 2 ^ 62) && decide (-(2 ^ 62) ≤ j) && decide (j < 2 ^ 62) then .ok ((List.range (j - i).toNat).map fun (k : Nat) => .int (i + (k : Int))) h else .bad
  | _ => .bad
def iR1 (a : Fl) : Fl := fun ρ h => (a ρ h).bind fun ds h1 => rng1D ds h1
def iR2 (a : Fl) : Fl := fun ρ h => (a ρ h).bind fun ds h1 => rng2D ds h1
theorem jok_rng {w : Wd} {H : Hp} {lo : Int} {n : Nat} : JOk g (Itr lo n) w H ((List.range n).map fun (k : Nat) => .int (lo + (k : Int))) := fun w' H' h' l hr i => by
  refine ⟨fun d hd => ?_, fun hd => ?_⟩
  · rw [List.getElem?_map, Option.map_eq_some_iff] at hd
    obtain ⟨c, e, rfl⟩ := hd
    obtain ⟨hi, e⟩ := List.getElem?_eq_some_iff.mp e
    rw [List.getElem_range] at e
    subst e
    refine ⟨by rw [List.length_range] at hi; exact hi, fun v H'' y => ?_⟩
    obtain ⟨rfl, rfl⟩ := y
    exact ⟨w', Later.refl _ _, hr, .int _⟩
  · rw [List.getElem?_map, Option.map_eq_none_iff] at hd
    have := List.getElem?_eq_none_iff.mp hd
    rw [List.length_range] at this
    exact this
theorem q_rng1 (hp : ∀ {ta : TA}, PA X [a] ta → PI X tg (.Call (.Name "range" p) [a] [] pos) (iRng1 ta)) (ha : PA X [a] (tL g E fs)) : PI X tg (.Call (.Name "range" p) [a] [] pos) (tIt g E (iR1 fs)) :=
  ⟨fun pins s σ H R I ⟨w, ρ, h, sr, o⟩ => (hp ha).run pins s σ H R I (tL_go sr o fun Vs H1 w1 ds h1 l sr1 rvs o1 => by
    unfold rng1D at o1
    split at o1
    · split at o1
      · rename_i hz
        simp only [Bool.and_eq_true, decide_eq_true_eq] at hz
        obtain ⟨x, rfl, rx⟩ := rvs1 rvs
        cases rx
        exact ⟨_, rfl, hz.1, hz.2, o1 w1 H1 _ (Later.refl w1 H1) sr1.hr jok_rng⟩
      · exact o1.elim
    · exact o1.elim)⟩
theorem q_rng2 (hp : ∀ {ta : TA}, PA X [a, b] ta → PI X tg (.Call (.Name "range" p) [a, b] [] pos) (iRng2 ta)) (ha : PA X [a, b] (tL g E fs)) : PI X tg (.Call (.Name "range" p) [a, b] [] pos) (tIt g E (iR2 fs)) :=
  ⟨fun pins s σ H R I ⟨w, ρ, h, sr, o⟩ => (hp ha).run pins s σ H R I (tL_go sr o fun Vs H1 w1 ds h1 l sr1 rvs o1 => by
    unfold rng2D at o1
    split at o1
    · split at o1
      · rename_i hz
        simp only [Bool.and_eq_true, decide_eq_true_eq] at hz
        obtain ⟨x, y, rfl, rx, ry⟩ := rvs2 rvs
        cases rx; cases ry
        exact ⟨_, _, rfl, ⟨hz.1.1.1, hz.1.1.2, hz.1.2, hz.2⟩, o1 w1 H1 _ (Later.refl w1 H1) sr1.hr jok_rng⟩
      · exact o1.elim
    · exact o1.elim)⟩
theorem q_for {is : List Nat} {fi : Fl} {t : Fg} {body : List Stmt} (hp : ∀ {wi : TI} {gg : TG} {tb : TS}, PI X tg iter wi → PG X tg gg → PSs X body tb → PS X (.For tg iter body [] pos) (tFor wi gg tb))
    (hi : PI X tg iter (tIt g E fi)) (hg : PG X tg (tG g is t)) (hb : PSs X body (tS g E zb)) : PS X (.For tg iter body [] pos) (tS g E (zFor fi t zb)) :=
  ⟨fun pins s σ H D I ⟨w, ρ, h, sr, o⟩ => (hp hi hg hb).run pins s σ H D I ⟨w, ρ, h, sr, (OKs.of (R := RJ g) o).imp fun J H1 ⟨w1, ds, h1, l1, hr1, jo, o1⟩ => by
    refine ⟨fun i m σ' H' => m = ds.length - i ∧ i ≤ ds.length ∧ ∃ w' ρ' h', Later w1 H1 w' H' ∧ SR g w' ρ' h' σ' H' ∧ OKs g w' H' E D (loopS t zb (ds.drop i) ρ' h'), ⟨ds.length, rfl, Nat.zero_le _, w1, ρ, h1, Later.refl _ _, sr.step l1 hr1, o1⟩, ?_⟩
    rintro i m σ' H' ⟨rfl, hi, w', ρ', h', l', sr', o'⟩
    obtain ⟨jg, js⟩ := jo w' H' h' l'.toLv sr'.hr i
    cases hd : ds[i]? with
    | none =>
      have hn := List.getElem?_eq_none_iff.mp hd
      rw [List.drop_of_length_le hn] at o'
      exact .inl ⟨js hd, o' w' H' σ' (Later.refl _ _) sr'⟩
    | some d =>
      obtain ⟨hlt, hd'⟩ := List.getElem?_eq_some_iff.mp hd
      obtain ⟨go, yl⟩ := jg d hd
      rw [List.drop_eq_getElem_cons hlt, hd'] at o'
      refine .inr ⟨go, fun σ2 H2 => ∃ w2 ρ2 h2, Later w1 H1 w2 H2 ∧ SR g w2 ρ2 h2 σ2 H2 ∧ OKs g w2 H2 E D (loopS t zb (ds.drop (i + 1)) ρ2 h2), fun σ2 H2 ⟨w2, ρ2, h2, x1, x2, x3⟩ => ⟨ds.length - (i + 1), by omega, rfl, hlt, w2, ρ2, h2, x1, x2, x3⟩, fun x H'' y => ?_⟩
      obtain ⟨w'', l'', hr'', rv⟩ := yl x H'' y
      have sr'' := sr'.step l'' hr''
      have o'' := OKs.mono l'' o'
      unfold loopS at o''
      split at o''
      · exact o''.elim
      · rename_i ρ1 e1
        refine ⟨w'', ρ', h', d, ρ1, sr'', rv, e1, fun σ3 sr3 _ => ⟨w'', ρ1, h', sr3, ?_⟩⟩
        split at o''
        · rename_i ρ2 h2 e2
          rw [e2]
          exact fun w3 H3 σ4 l3 sr4 => ⟨w3, ρ2, h2, (l'.trans l'').trans l3, sr4, OKs.mono l3 o''⟩
        · rename_i ρ2 h2 e2
          rw [e2]
          exact fun w3 H3 σ4 l3 sr4 => ⟨w3, ρ2, h2, (l'.trans l'').trans l3, sr4, OKs.mono l3 o''⟩
        · rename_i ρ2 h2 e2
          rw [e2]
          exact o''
        · rename_i r n1 n2 n3
          cases q : zb ρ1 h' with
          | nx ρ2 h2 => exact absurd q (n1 ρ2 h2)
          | ct ρ2 h2 => exact absurd q (n2 ρ2 h2)
          | bk ρ2 h2 => exact absurd q (n3 ρ2 h2)
          | rt d2 h2 => rw [q] at o''; exact o''
          | exc c2 ds2 h2 => rw [q] at o''; exact o''
          | bad => rw [q] at o''; exact o''⟩⟩
end
end Ax
namespace Ax
open PySem PySem.Spec PyProof.Rows L2

def wipeR (ρ : Rho) : List Nat → Rho
  | [] => ρ
  | v :: vs => (wipeR ρ vs).set v none
/-- the elements of a comprehension -/
def lcL (t : Fg) (c : Ft) (e : Fn) (ρ : Rho) : List D → Hh → Res (List D)
  | [], h => .ok [] h
  | d :: ds, h => match t d ρ with
    | none => .bad
    | some ρ1 => (c ρ1 h).bind fun k h1 => if k then (e ρ1 h1).bind fun x h2 => (lcL t c e ρ ds h2).bind fun xs h3 => .ok (x :: xs) h3 else lcL t c e ρ ds h1
/-- no exception may come out of it -/
def noX {α : Type} (r : Res α) : Res α := match r with
  | .exc _ _ _ => .bad
  | r => r
/-- the comprehension's list, frozen | by number -/
def lcE (it : Fl) (own : List Nat) (t : Fg) (c : Ft) (e : Fn) : Fl := fun ρ h => (it ρ h).bind fun ds h1 => if sz ds.length then noX (lcL t c e (wipeR ρ own) ds h1) else .bad

section
variable {g : Gx} {E : XK} {X : Cx} {w : Wd} {ρ : Rho} {h : Hh} {σ : L2.St} {H : Hp}
theorem wipe_sub (σ : L2.St) (vs : List Nat) : ∀ us : List Nat, (∀ u ∈ us, u ∈ vs) → L2.wipe (L2.wipe σ us) vs = L2.wipe σ vs
  | [], _ => rfl
  | u :: us, h => (wipe_in (h u (List.mem_cons_self ..))).trans (wipe_sub σ vs us fun x hx => h x (List.mem_cons_of_mem _ hx))
theorem wipe_twice (σ : L2.St) (vs : List Nat) : L2.wipe (L2.wipe σ vs) vs = L2.wipe σ vs := wipe_sub σ vs vs fun _ h => h
theorem SR.wipes (sr : SR g w ρ h σ H) : ∀ vs : List Nat, SR g w (wipeR ρ vs) h (L2.wipe σ vs) H
  | [] => sr
  | v :: vs => (SR.wipes sr vs).wipe v
/-- no exception within -/
abbrev EF : XK := fun _ _ _ => False
theorem noX_inv {α : Type} {r : Res α} {a : α} {h : Hh} (e : noX r = .ok a h) : r = .ok a h := by
  cases r with
  | ok a h => exact e
  | exc c ds h => cases e
  | bad => cases e
theorem bind_inv {α β : Type} {r : Res α} {k : α → Hh → Res β} {b : β} {h' : Hh} (e : r.bind k = .ok b h') : ∃ a h1, r = .ok a h1 ∧ k a h1 = .ok b h' := by
  cases r with
  | ok a h => exact ⟨a, h, rfl, e⟩
  | exc c ds h => cases e
  | bad => cases e
theorem RS.mono0 {w' : Wd} {H' : Hp} (l : Lv w H w' H') (r : RS g w H ρ σ) : RS g w' H' ρ σ := fun i d e => by
  obtain ⟨v, e1, r1⟩ := r i d e
  exact ⟨v, e1, r1.mono0 l⟩
theorem Lv.trans {w w' w'' : Wd} {H H' H'' : Hp} (a : Lv w H w' H') (b : Lv w' H' w'' H'') : Lv w H w'' H'' := by
  obtain ⟨x, ex⟩ := a.ext
  obtain ⟨y, ey⟩ := b.ext
  exact ⟨fun c h => b.frz c (a.frz c h), fun c u h r => b.rd c u (a.frz c h) (a.rd c u h r), fun c u h r => b.lst c u (a.frz c h) (a.lst c u h r), fun c o u h => b.sf c o u (a.sf c o u h), fun c C dx fs h r => b.ins c C dx fs (a.frz c h) (a.ins c C dx fs h r), fun c xs h => b.tup c xs (a.tup c xs h), ⟨x ++ y, by rw [ey, ex, List.append_assoc]⟩⟩
/-- the loop of a comprehension; fin is told of the list's address, unknown so far to the world -/
theorem lc_run {is own : List Nat} {t : Fg} {c : Ft} {e : Fn} {ds es : List D} {h1 h2 : Hh} {J : It} {Qd : V → Hp → Prop} (sr : SR g w ρ h1 σ H) (jo : JOk g J w H ds) (hz : sz ds.length = true) (hi : ∀ i ∈ is, i ∈ own)
    (ee : lcL t c e (wipeR ρ own) ds h1 = .ok es h2)
    (fin : ∀ w2 H2 p vs, Later w H w2 H2 → HR g w2 h2 H2 → H2 p = some (.lst vs) → RVs g w2 H2 es vs → ¬ w2.F p → p ∉ w2.m → (∀ x ∈ w2.P, x.1 ≠ p) → Qd (.ref p) H2) :
    ∀ Da, H Da = none → ∃ W : Nat → Nat → Hp → Prop, (∃ m, W 0 m (upd H Da (.lst []))) ∧ ∀ i m H', W i m H' →
      (J.stop i H' ∧ Qd (.ref Da) H') ∨ (J.go i H' ∧ ∃ Nx : Hp → Prop, (∀ H'', Nx H'' → ∃ m', m' < m ∧ W (i + 1) m' H'') ∧ ∀ x H'', J.yld i H' x H'' → tG g is t x (wipe σ own) H'' fun σ2 H2 => wipe σ2 own = wipe σ own ∧ tT g EF c σ2 H2 fun b H3 =>
        if b = true then tI g EF e σ2 H3 fun y H4 => ∃ acc, H4 Da = some (.lst acc) ∧ acc.length < sizeLine ∧ Nx (upd H4 Da (.lst (acc ++ [y]))) else Nx H3) := by
  intro Da hDa
  have nP := sr.hr.np hDa
  refine ⟨fun i m H' => m = ds.length - i ∧ i ≤ ds.length ∧ ∃ (u : Wd) (h' : Hh) (acc es' : List D) (accV : List V), Lv w H u H' ∧ u.P = (Da, .lst accV) :: w.P ∧ HR g u h' H' ∧ RVs g u H' acc accV ∧ acc.length ≤ i ∧ lcL t c e (wipeR ρ own) (ds.drop i) h' = .ok es' h2 ∧ acc ++ es' = es,
    ⟨ds.length, rfl, Nat.zero_le _, w.hold Da (.lst []), h1, [], es, [], (later_new sr.hr hDa).toLv.trans (lv_of rfl fun _ z => z), rfl, hr_hold sr.hr hDa, .nil, Nat.le_refl _, ee, rfl⟩, ?_⟩
  rintro i m H' ⟨rfl, hi', u, h', acc, es', accV, lv, eP, hr, rvs, hlen, el, eapp⟩
  obtain ⟨jg, js⟩ := jo u H' h' lv hr i
  have held : H' Da = some (.lst accV) ∧ ¬ u.F Da ∧ Da ∉ u.m := hr.pr (Da, .lst accV) (by rw [eP]; exact List.mem_cons_self ..)
  cases hd : ds[i]? with
  | none =>
    have hn := List.getElem?_eq_none_iff.mp hd
    rw [List.drop_of_length_le hn] at el
    simp only [lcL, Res.ok.injEq] at el
    obtain ⟨rfl, rfl⟩ := el
    rw [List.append_nil] at eapp
    subst eapp
    refine .inl ⟨js hd, ?_⟩
    have lw : Lv u H' ⟨u.m, u.F, w.P⟩ H' := lv_of rfl fun _ z => z
    refine fin ⟨u.m, u.F, w.P⟩ H' Da accV ⟨lv.trans lw, rfl⟩ ?_ held.1 (rvs.mono0 lw) held.2.1 held.2.2 nP
    exact hr_P hr rfl rfl fun x hx => hr.pr x (by rw [eP]; exact List.mem_cons_of_mem _ hx)
  | some d =>
    obtain ⟨hlt, hd'⟩ := List.getElem?_eq_some_iff.mp hd
    obtain ⟨go, yl⟩ := jg d hd
    rw [List.drop_eq_getElem_cons hlt, hd'] at el
    unfold lcL at el
    split at el
    · cases el
    · rename_i ρ1 et
      obtain ⟨k, h3, ec, el⟩ := bind_inv el
      have next : ∀ {H4 : Hp} {u4 : Wd} {h4 : Hh} {acc' es'' : List D} {accV' : List V}, Lv w H u4 H4 → u4.P = (Da, .lst accV') :: w.P → HR g u4 h4 H4 → RVs g u4 H4 acc' accV' → acc'.length ≤ i + 1 → lcL t c e (wipeR ρ own) (ds.drop (i + 1)) h4 = .ok es'' h2 → acc' ++ es'' = es →
          ∃ m', m' < ds.length - i ∧ m' = ds.length - (i + 1) ∧ i + 1 ≤ ds.length ∧ ∃ (u : Wd) (h' : Hh) (acc es' : List D) (accV : List V), Lv w H u H4 ∧ u.P = (Da, .lst accV) :: w.P ∧ HR g u h' H4 ∧ RVs g u H4 acc accV ∧ acc.length ≤ i + 1 ∧ lcL t c e (wipeR ρ own) (ds.drop (i + 1)) h' = .ok es' h2 ∧ acc ++ es' = es :=
        fun a1 a2 a3 a4 a5 a6 a7 => ⟨ds.length - (i + 1), by omega, rfl, hlt, _, _, _, _, _, a1, a2, a3, a4, a5, a6, a7⟩
      refine .inr ⟨go, _, fun H'' z => z, fun x H'' y => ?_⟩
      obtain ⟨u2, l2, hr2, rv⟩ := yl x H'' y
      have lv2 := lv.trans l2.toLv
      have sr0 := sr.wipes own
      have sr2 : SR g u2 (wipeR ρ own) h' (wipe σ own) H'' := ⟨hr2, sr0.rs.mono0 lv2, sr0.ln⟩
      refine ⟨u2, _, h', d, ρ1, sr2, rv, et, fun σ' sr' hw => ⟨hw own hi |>.trans ?_, u2, ρ1, h', sr', ?_⟩⟩
      · exact wipe_twice σ own
      · rw [ec]
        intro u3 H3 b l3 hr3 rb
        subst rb
        have sr3 := sr'.step l3 hr3
        have eP3 : u3.P = (Da, .lst accV) :: w.P := by rw [l3.pr, l2.pr, eP]
        cases k with
        | false =>
          rw [if_neg Bool.false_ne_true]
          rw [if_neg Bool.false_ne_true] at el
          exact next (lv2.trans l3.toLv) eP3 hr3 ((rvs.mono l2).mono l3) (by omega) el eapp
        | true =>
          rw [if_pos rfl]
          rw [if_pos rfl] at el
          obtain ⟨y, h4, ey, el⟩ := bind_inv el
          obtain ⟨ys, h5, eys, el⟩ := bind_inv el
          simp only [Res.ok.injEq] at el
          obtain ⟨rfl, rfl⟩ := el
          refine ⟨u3, ρ1, h3, sr3, ?_⟩
          rw [ey]
          intro u4 H4 vy l4 hr4 rvy
          have eP4 : u4.P = (Da, .lst accV) :: w.P := by rw [l4.pr, eP3]
          obtain ⟨q1, q2, q3⟩ := hr4.pr (Da, .lst accV) (by rw [eP4]; exact List.mem_cons_self ..)
          have rv4 := ((rvs.mono l2).mono l3).mono l4
          refine ⟨accV, q1, ?_, ?_⟩
          · have := sz_le hz
            rw [← rv4.length]
            omega
          · have hu4 : u4 = (⟨u4.m, u4.F, w.P⟩ : Wd).hold Da (.lst accV) := by
              cases u4 with
              | mk m F P => simp only at eP4; subst eP4; rfl
            rw [hu4] at hr4
            obtain ⟨r1, r2⟩ := hr_rehold hr4 (by rw [q1]; trivial) nP (.lst (accV ++ [vy]))
            have l5 : Lv u4 H4 ((⟨u4.m, u4.F, w.P⟩ : Wd).hold Da (.lst (accV ++ [vy]))) (upd H4 Da (.lst (accV ++ [vy]))) :=
              (lv_of (w := u4) (w' := ⟨u4.m, u4.F, w.P⟩) rfl fun _ z => z).trans (r2.trans (lv_of rfl fun _ z => z))
            refine next (acc' := acc ++ [y]) (((lv2.trans l3.toLv).trans l4.toLv).trans l5) rfl r1 ((rv4.append (.one rvy)).mono0 l5) (by rw [List.length_append, List.length_singleton]; omega) eys ?_
            rw [List.append_assoc]
            exact eapp
theorem bind_assoc {α β γ : Type} (r : Res α) (f : α → Hh → Res β) (k : β → Hh → Res γ) : (r.bind f).bind k = r.bind fun a h => (f a h).bind k := by cases r <;> rfl
/-- a thing that the world did not know gets the next number -/
theorem hr_num {p : Addr} {o : O} (q : HR g w h H) (hm : p ∉ w.m) (hP : ∀ x ∈ w.P, x.1 ≠ p) (hob : OR g (w.new p) H p o) : HR g (w.new p) (h ++ [o]) H ∧ Later w H (w.new p) H := by
  have l : Later w H (w.new p) H := ⟨⟨fun _ z => z, fun _ _ _ r => r, fun _ _ _ r => r, fun _ _ _ r => r, fun _ _ _ _ _ r => r, fun _ _ r => r, ⟨[p], rfl⟩⟩, rfl⟩
  refine ⟨⟨by simp [Wd.new, q.len], ?_, q.fz, fun i o1 a e1 e2 => ?_, fun x hx => ?_⟩, l⟩
  · show (w.m ++ [p]).Nodup
    rw [List.nodup_append]
    refine ⟨q.nd, by simp, fun a ha b hb => ?_⟩
    have : b = p := by simpa using hb
    subst this
    exact fun z => hm (z ▸ ha)
  · by_cases hi : i < h.length
    · rw [List.getElem?_append_left hi] at e1
      have e2' : w.m[i]? = some a := by
        have e2 : (w.m ++ [p])[i]? = some a := e2
        rw [List.getElem?_append_left (by rw [q.len]; exact hi)] at e2
        exact e2
      exact (q.ob i o1 a e1 e2').mono l Iff.rfl (.inl rfl)
    · have hi' : i = h.length := by
        have := (List.getElem?_eq_some_iff.mp e1).1
        simp at this
        omega
      subst hi'
      rw [List.getElem?_append_right (Nat.le_refl _)] at e1
      simp at e1
      have e2 : (w.m ++ [p])[h.length]? = some a := e2
      rw [← q.len, List.getElem?_append_right (Nat.le_refl _)] at e2
      simp at e2
      subst e1 e2
      exact hob
  · obtain ⟨e1, e2, e3⟩ := q.pr x hx
    refine ⟨e1, e2, fun z => ?_⟩
    rcases List.mem_append.mp (show x.1 ∈ w.m ++ [p] from z) with z | z
    · exact e3 z
    · exact hP x hx (by simpa using z)
/-- how the list is handed on: f is known to hand it on, frozen or by number -/
def Hands (g : Gx) (E : XK) (f : List D → Hh → Res D) : Prop := ∀ (w w2 : Wd) (H H2 : Hp) (h2 : Hh) (p : Addr) (vs : List V) (es : List D) (Q : VK), OKg g (RV g) w H E Q (f es h2) → Later w H w2 H2 → HR g w2 h2 H2 → H2 p = some (.lst vs) → RVs g w2 H2 es vs → ¬ w2.F p → p ∉ w2.m → (∀ x ∈ w2.P, x.1 ≠ p) → Q (.ref p) H2
theorem hands_frz : Hands g E (fun es h2 => .ok (.lst es) h2) := fun w w2 H H2 h2 p vs es Q o l hr hp rv nF nm nP =>
  o (w2.frz p) H2 (.ref p) (l.trans (later_frz hr)) (hr_frz hr nm ⟨_, hp⟩ nP) (.lst hp (.inl rfl) (rv.mono (later_frz hr)))
theorem hands_num : Hands g E (fun es h2 => .ok (.ref h2.length) (h2 ++ [.lst es])) := fun w w2 H H2 h2 p vs es Q o l hr hp rv nF nm nP => by
  have l0 : Later w2 H2 (w2.new p) H2 := ⟨⟨fun _ z => z, fun _ _ _ r => r, fun _ _ _ r => r, fun _ _ _ r => r, fun _ _ _ _ _ r => r, fun _ _ r => r, ⟨[p], rfl⟩⟩, rfl⟩
  obtain ⟨k1, k2⟩ := hr_num (o := .lst es) hr nm nP ⟨nF, vs, hp, rv.mono l0⟩
  exact o (w2.new p) H2 (.ref p) (l.trans k2) k1 (.ref (by show (w2.m ++ [p])[h2.length]? = some p; rw [← hr.len]; simp))
def xLcG (f : List D → Hh → Res D) (it : Fl) (own : List Nat) (t : Fg) (c : Ft) (e : Fn) : Fn := fun ρ h => (lcE it own t c e ρ h).bind f
theorem lc_rd {f : List D → Hh → Res D} (hf : Hands g E f) {fi : Fl} {is own : List Nat} {t : Fg} {c : Ft} {e : Fn} (hi : ∀ i ∈ is, i ∈ own) {Q : VK} (hq : tI g E (xLcG f fi own t c e) σ H Q) :
    tLc (tIt g E fi) (tG g is t) (tT g EF c) (tI g EF e) own σ H Q := by
  obtain ⟨w, ρ, h, sr, o⟩ := hq
  unfold xLcG lcE at o
  rw [bind_assoc] at o
  refine ⟨w, ρ, h, sr, (OKg.bind (R := RJ g) o).imp fun J H1 ⟨w1, ds, h1, l, hr1, jo, o1⟩ => ?_⟩
  split at o1
  · rename_i hz
    cases q : noX (lcL t c e (wipeR ρ own) ds h1) with
    | bad => rw [q] at o1; exact o1.elim
    | exc c0 d0 h0 =>
      exfalso
      cases q' : lcL t c e (wipeR ρ own) ds h1 <;> (rw [q'] at q; cases q)
    | ok es h2 =>
      rw [q] at o1
      exact lc_run (sr.step l hr1) jo hz hi (noX_inv q) fun w2 H2 p vs l2 hr2 hp rv nF nm nP => hf w1 w2 H1 H2 h2 p vs es Q o1 l2 hr2 hp rv nF nm nP
  · exact o1.elim
theorem q_pts0 : PTs X [] (tT g E yYes) := ⟨fun pins s σ H Q I ⟨w, ρ, h, sr, o⟩ => pts_nil.run pins s σ H Q I (o w H true (Later.refl w H) sr.hr rfl)⟩
end
end Ax
namespace Ax
open PySem PySem.Spec PyProof.Rows L2

/-- room for k calls, and no repr under way -/
structure RmG (k : Nat) (A : Around) : Prop where
  rm : Room k A
  gd : A.guards = some []
/-- the def at f keeps its promise (as FnOk, where no repr is under way) -/
structure FnG (P : Program) (w : World) (g : Gx) (base : Heap) (CX : CXT) (k : Nat) (f : Addr) (fd : FuncData) (ps : List Str) (sp : Sp) : Prop where
  len : ∀ vs H Q E, sp vs H Q E → vs.length = ps.length
  go : ∀ (A : Around) (out : List Env) (s : Shared) (H : Hp) (ar : Args) (us : List Value) (vs : List V) (Q : VK) (E : XK), RmG k A → Env0 P w g.K g.mg base A out s H → BindsTo s fd ar (ps.zip us) → Vals vs us → sp vs H Q E →
    codeAny (model P w) A (.call (.ref f) ar) (CR CX out P w H s Q E) s

/-- a def: how many parameters, how many names, what its body does -/
structure Fd where
  np : Nat
  nl : Nat
  body : (Str → List D → Hh → Res D) → Fs
abbrev Tab := Str → Option Fd
def startR (n : Nat) (ds : List D) : Rho := ds.map some ++ List.replicate (n - ds.length) none
/-- what a body's end gives (no exception) -/
def endB : SRes → Res D
  | .rt d h => .ok d h
  | .nx _ h => .ok .non h
  | _ => .bad
def callN (T : Tab) : Nat → Str → List D → Hh → Res D
  | 0, _, _, _ => .bad
  | k + 1, f, ds, h => match T f with
    | none => .bad
    | some fd => if ds.length = fd.np then endB (fd.body (callN T k) (startR fd.nl ds) h) else .bad
def spN (g : Gx) (c : List D → Hh → Res D) (n : Nat) : Sp := fun vs H Q E => ∃ w h ds, HR g w h H ∧ RVs g w H ds vs ∧ ds.length = n ∧ OKg g (RV g) w H E Q (c ds h)

section
variable {g : Gx} {w : Wd} {H : Hp} {h : Hh}
theorem rvs_start {ds : List D} {vs : List V} {N : List Str} (hr : HR g w h H) (r : RVs g w H ds vs) : SR g w (startR N.length ds) h (start N vs) H := by
  refine ⟨hr, fun i d e => ?_, ?_⟩
  · unfold startR at e
    by_cases hi : i < ds.length
    · rw [List.getElem?_append_left (by simpa using hi), List.getElem?_map, Option.map_eq_some_iff] at e
      obtain ⟨d', e1, e2⟩ := e
      cases e2
      obtain ⟨v, e3, rv⟩ := r.get e1
      refine ⟨v, ?_, rv⟩
      unfold L2.start
      rw [List.getElem?_append_left (by rw [List.length_map, ← r.length]; exact hi), List.getElem?_map, e3]
      rfl
    · rw [List.getElem?_append_right (by simpa using hi), List.getElem?_replicate] at e
      split at e <;> cases e
  · unfold startR L2.start
    rw [List.length_append, List.length_append, List.length_map, List.length_map, List.length_replicate, List.length_replicate, r.length]
end

section
variable {P : Program} {wo : World} {g : Gx} {base : Heap} {T : Tab} {k : Nat}
/-- what is known of the defs of T at the level k -/
def Defs (P : Program) (wo : World) (g : Gx) (base : Heap) (T : Tab) (k : Nat) : Prop := ∀ (x : Str) (fd : Fd), T x = some fd →
  ∃ f fdat ps, g.mg x = some (.ref f) ∧ PySem.W.keepIn g.K (.ref f) = true ∧ Binds g.K fdat ps [] ∧ ps.length = fd.np ∧ FnG P wo g base CX0 k f fdat ps (spN g (callN T k x) fd.np)

variable {X : Cx}
/-- f(e, ..) -/
theorem q_call {E : XK} {x : Str} {p pos : Pos} {e : Expr} {es : List Expr} {fs : Fl} {fd : Fd} (xo : XO g X) (hP : X.prog = P) (hw : X.w = wo) (hb : X.base = base) (DS : Defs P wo g base T k) (hx : T x = some fd) (hr : RmG k X.A) (hg : Gl X x) (ha : PA X (e :: es) (tL g E fs))
    (hdb : (x == ("__debug__" : Str)) = false := by decide +kernel) (he : starEach (e :: es) X.env = (false, eval e X.env) :: starEach es X.env := by rfl) (hpl : (backTo pos (starEach es X.env)).any (·.1) = false := by rfl) :
    PE X (.Call (.Name x p) (e :: es) [] pos) (tI g E (xCall fd.np (callN T k x) fs)) := by
  obtain ⟨f, fdat, ps, hm, hk, hbi, hl, F⟩ := DS x fd hx
  subst hP hw hb
  rw [← xo.mg] at hm
  rw [← xo.K] at hk
  refine ⟨fun pins s σ H Q I ⟨w, ρ, h, sr, o⟩ => ?_⟩
  refine wpAny_Call_Name_kw (ld_glob I hg hm ?_ hdb)
  have ar : tL g E fs σ H (fun vs H1 => spN g (callN T k x) fd.np vs H1 Q E) := tL_go sr o fun Vs H1 w1 ds h1 l sr1 rvs o1 => by
    split at o1
    · rename_i hn
      exact ⟨w1, h1, ds, sr1.hr, rvs, hn, o1⟩
    · exact o1.elim
  refine PySem.W.callWith_K (h₀ := X.base) I.ok.mod.kin hk (thn (ha.run pos pins s σ H _ I ar) fun us s1 ⟨vs, H1, I1, r, q⟩ => ⟨I1.kIn, ?_⟩) he hpl
  have hlen : us.length = ps.length := by rw [← r.length]; exact F.len _ _ _ _ q
  have env1 : Env0 X.prog X.w g.K g.mg X.base X.A X.stack s1 H1 := by have z := I1.env0; rw [xo.K, xo.mg] at z; exact z
  have bd : BindsTo s1 fdat ⟨us, []⟩ (ps.zip us) := by
    have z := hbi s1 us (by rw [← xo.K]; exact I1.kIn) (by simpa using hlen)
    rwa [List.append_nil] at z
  refine wpAny_call (codeAny_mono (F.go X.A X.stack s1 H1 ⟨us, []⟩ us vs Q E hr env1 bd r q) fun res s' hq => ?_)
  cases res with
  | error ex => exact hq.elim
  | ok fl =>
    cases fl with
    | ret u => exact I1.after hq
    | next => exact hq.elim
    | brk => exact hq.elim
    | cont => exact hq.elim

/-- the context of a def's body -/
abbrev bx (P : Program) (wo : World) (g : Gx) (base : Heap) (N : List Str) (qual : Str) (scope : Scope) (f : Addr) (cdv : Value) (A : Around) (out : List Env) (s : Shared) (H : Hp) (E : XK) : Cx := (cxOf CX0 P wo g.K g.mg base N qual scope f cdv A out s H E).nox
theorem bx_ok {N ps : List Str} {qual : Str} {scope : Scope} {f : Addr} {cdv : Value} {A : Around} {out : List Env} {s : Shared} {H : Hp} {E : XK} (S : FnScope N ps scope) (hr : RmG k (A.deeper (envOfC qual scope s.heap.objs.size f cdv))) : XO g (bx P wo g base N qual scope f cdv A out s H E) :=
  ⟨rfl, rfl, rfl, S.nd, by have z := hr.rm.un; show (A.deeper _).units + 200 < cLine; omega, hr.gd⟩
/-- a def by its body -/
theorem fnG_of {f : Addr} {x qual : Str} {st : Stmt} {fdat : FuncData} {N ps : List Str} {fd : Fd} (F : Fun g.K x qual st f fdat) (S : FnScope N ps (defScope st)) (hnp : ps.length = fd.np) (hnl : N.length = fd.nl)
    (hb : ∀ (cdv : Value) (A : Around) (out : List Env) (s : Shared) (H : Hp) (E : XK), RmG k (A.deeper (envOfC qual (defScope st) s.heap.objs.size f cdv)) → PSs (bx P wo g base N qual (defScope st) f cdv A out s H E) (defBody st) (tS g EF (fd.body (callN T k))))
    {y : Str} (hT : T y = some fd) : FnG P wo g base CX0 (k + 1) f fdat ps (spN g (callN T (k + 1) y) fd.np) := by
  obtain ⟨oc, od, kV, doc, pm, an, cdv, ct, osl, rfl, lk, hcd⟩ := F.ex
  have len : ∀ vs H Q E, spN g (callN T (k + 1) y) fd.np vs H Q E → vs.length = ps.length := fun vs H Q E ⟨w, h, ds, _, r, hn, _⟩ => by rw [← r.length, hn, hnp]
  refine ⟨len, fun A out s H ar us vs Q E hr e0 hbd r hsp => ?_⟩
  have KX : g.K.In s.heap := e0.mod.kin.keeps fun b o e => (e0.bs b o e).1
  have lim : s.heap.NoLimit := e0.mod.nolimit.keeps fun b o e => (e0.bs b o e).1
  have kinds : ∀ z ∈ ps.zip us, (defScope st).names.lookup z.1 = some .local ∨ ((defScope st).names.lookup z.1 = some .cell ∧ ((cellsFrom (s.heap.objs.size + 1) (defScope st).names []).lookup z.1).isSome = true) := fun ⟨n, v⟩ hz => by
    rcases S.par n (List.of_mem_zip hz).1 with q | q
    · exact .inl q
    · exact .inr ⟨q, PySem.W.cellsFrom_some _ _ _ (.inl q)⟩
  refine codeAny_call_function hr.rm.depth (KX _ _ lk) rfl S.co S.gen rfl (PySem.W.codeRec_of KX hcd) (hbd _ _ _ _ ?_)
  refine wpAny_newFunctionEnv_cells S.kind kinds fun env he s1 xx => ?_
  subst he
  refine ⟨lim.keeps xx.toInCall.keep, codeAny_func ?_⟩
  have hr2 : RmG k (A.deeper (envOfC qual (defScope st) s.heap.objs.size f cdv)) := ⟨hr.rm.deeper _, hr.gd⟩
  have hPS : PSs (cxOf CX0 P wo g.K g.mg base N qual (defScope st) f cdv A out s H E) (defBody st) (tS g EF (fd.body (callN T k))) := (hb cdv A out s H E hr2).nox
  have hl := len _ _ _ _ hsp
  have I : Inv (cxOf CX0 P wo g.K g.mg base N qual (defScope st) f cdv A out s H E) [] (start N vs) H s1 := inv_start S hr.rm.hd e0 hl r xx
  obtain ⟨w, h, ds, hr0, rvs, hn, o⟩ := hsp
  have rd : tS g EF (fd.body (callN T k)) { nx := fun _ H' => Q .non H', rt := Q } (start N vs) H := by
    refine ⟨w, startR N.length ds, h, rvs_start hr0 rvs, ?_⟩
    simp only [callN, hT, hn, if_true] at o
    rw [hnl]
    generalize fd.body (callN T k) (startR fd.nl ds) h = r0 at o
    cases r0 with
    | rt d h' => exact o
    | nx ρ h' => exact fun w' H' σ' l sr => o w' H' .non l sr.hr .non
    | bk ρ h' => exact o.elim
    | ct ρ h' => exact o.elim
    | exc c d h' => exact o.elim
    | bad => exact o.elim
  refine wpAny_mono (hPS.run [] s1 (start N vs) H _ I rd) (fun fl s' hs => ?_) fun e s' hs => hs
  cases fl with
  | ret u =>
    obtain ⟨v, σ', H', J, rv, q⟩ := hs
    exact ⟨v, H', J.os, J.bare, J.base, J.hok, rv, q⟩
  | next =>
    obtain ⟨σ', H', J, q⟩ := hs
    exact ⟨.non, H', J.os, J.bare, J.base, J.hok, rfl, q⟩
  | brk => obtain ⟨_, _, _, q⟩ := hs; exact q.elim
  | cont => obtain ⟨_, _, _, q⟩ := hs; exact q.elim
/-- level 0: nothing is asked -/
theorem fnG_zero {f : Addr} {fdat : FuncData} {ps : List Str} {n : Nat} {y : Str} (hl : ps.length = n) : FnG P wo g base CX0 0 f fdat ps (spN g (callN T 0 y) n) :=
  ⟨fun vs H Q E ⟨w, h, ds, _, r, hn, _⟩ => by rw [← r.length, hn, hl], fun _ _ _ _ _ _ _ _ _ _ _ _ _ ⟨_, _, _, _, _, _, o⟩ => o.elim⟩
/-- one row of facts a def -/
structure Row (P : Program) (wo : World) (g : Gx) (base : Heap) (T : Tab) (x : Str) (fd : Fd) : Prop where
  ex : ∃ (f : Addr) (fdat : FuncData) (ps : List Str), g.mg x = some (.ref f) ∧ PySem.W.keepIn g.K (.ref f) = true ∧ Binds g.K fdat ps [] ∧ ps.length = fd.np ∧
    ∀ k, Defs P wo g base T k → FnG P wo g base CX0 (k + 1) f fdat ps (spN g (callN T (k + 1) x) fd.np)
theorem defs_all (R : ∀ x fd, T x = some fd → Row P wo g base T x fd) : ∀ k, Defs P wo g base T k
  | 0 => fun x fd hx => by
    obtain ⟨f, fdat, ps, h1, h2, h3, h4, _⟩ := (R x fd hx).ex
    exact ⟨f, fdat, ps, h1, h2, h3, h4, fnG_zero h4⟩
  | k + 1 => fun x fd hx => by
    obtain ⟨f, fdat, ps, h1, h2, h3, h4, h5⟩ := (R x fd hx).ex
    exact ⟨f, fdat, ps, h1, h2, h3, h4, h5 k (defs_all R k)⟩
end
end Ax
namespace Ax
open PySem PySem.Spec PyProof.Rows L2
/-- the law's call, at the heap behind the top: the tree's run says True -/
theorem law_goes {P : Program} {wo : World} {g : Gx} {mb : Str → Option Value} {k : Nat} {fa a : Addr} {T : Tab} {y : Str} {s₁ : Shared} {vs : List Value} {ns : List Int} {hE : Hh} {fd : FuncData} {x : Str}
    (KX : g.K.In s₁.heap) (hns : s₁.heap.Ns mainGlobals g.mg) (hb : s₁.heap.Ns builtinsNs mb) (hbb : ∀ x : Str, x ≠ "__name__" → mb x = bootBuiltins x) (hlim : s₁.heap.NoLimit) (hg : s₁.gens = #[])
    (ha : s₁.heap.get? a = some { cls := .type "list", data := .seq vs.toArray }) (hi : IntsAre vs ns) (hl : ns.length ≤ sizeLine) (hr : RmG k callerA)
    (F : ∀ base : Heap, g.K.In base → base.Ns mainGlobals g.mg → FnG P wo g base CX0 k fa fd [x] (spN g (callN T k y) 1)) (hbind : ∀ (s : Shared) (u : Value), BindsTo s fd ⟨[u], []⟩ [(x, u)])
    (hrun : callN T k y [.scr ns] [] = .ok (.bl true) hE) :
    codeAny (model P wo) callerA (.call (.ref fa) ⟨[.ref a], []⟩) (fun r s' => r = .ok (.ret (.bool true)) ∧ OldK s₁.heap s'.heap ∧ s'.os = s₁.os ∧ AllBare s'.gens) s₁ := by
  have rv := vals_ints hi
  have lenV := hi.length
  -- H tells of nothing but the script
  have main : ∀ H : Hp, (∀ b u, H b = some u → b = a ∧ ∃ o xs, u = .frz o (.lst xs)) → ScrAt g H a ns → HOk P wo H s₁.heap → (∀ u, H a = some u → g.K.lookup a = none) →
      codeAny (model P wo) callerA (.call (.ref fa) ⟨[.ref a], []⟩) (fun r s' => r = .ok (.ret (.bool true)) ∧ OldK s₁.heap s'.heap ∧ s'.os = s₁.os ∧ AllBare s'.gens) s₁ := by
    intro H only hS hok hK
    have none_of : ∀ {b : Addr}, (∀ u, H b = some u → False) → H b = none := fun {b} z => by
      cases q : H b with
      | none => rfl
      | some u => exact (z u q).elim
    have dn : ∀ {b : Addr} {o : Obj} {es : Array DictEntry} {ep : Nat}, s₁.heap.get? b = some o → o.data = .dict es ep → H b = none := fun {b o es ep} e d => none_of fun u q => by
      obtain ⟨rfl, _⟩ := only b u q
      rw [ha] at e
      cases e
      have d' : Data.seq vs.toArray _ = Data.dict es ep := d
      cases d'
    have ns_of : ∀ {b : Addr} {m : Str → Option Value}, s₁.heap.Ns b m → (hidT s₁.heap H).Ns b m := fun {b m} ⟨o, es, ep, e, d, r⟩ => ⟨o, es, ep, hidT_get e (dn e d), d, r⟩
    have kb : g.K.In (hidT s₁.heap H) := fun b o e => hidT_get (KX b o e) (none_of fun u q => by
      obtain ⟨rfl, _⟩ := only b u q
      rw [hK u q] at e
      cases e)
    have md : Mod g.K g.mg (hidT s₁.heap H) := ⟨kb, ns_of hns, ⟨mb, ns_of hb, hbb⟩, let ⟨mc, z1, z2⟩ := hlim; ⟨mc, ns_of z1, z2⟩⟩
    have ev : Env0 P wo g.K g.mg (hidT s₁.heap H) callerA [] s₁ H := ⟨rfl, md, fun b o e => of_hidT e, Nat.le_of_eq (hidT_size _ _), trivial, fun b z => absurd (show b ∈ ([] : List Addr) from z) (by simp), hok, .of_eq hg⟩
    have sp : spN g (callN T k y) 1 [.ref a] H (fun v _ => v = .bl true) EF := by
      refine ⟨⟨[], fun _ => False, []⟩, [], [.scr ns], ⟨rfl, List.nodup_nil, fun _ z => z.elim, fun i o b e => by simp at e, fun p z => absurd (show p ∈ ([] : List (Addr × HO)) from z) (by simp)⟩, .cons (.scr hS) .nil, rfl, ?_⟩
      rw [hrun]
      intro w' H' v _ _ r
      cases r
      rfl
    refine codeAny_mono ((F _ kb (ns_of hns)).go callerA [] s₁ H ⟨[.ref a], []⟩ [.ref a] [.ref a] _ _ hr ev (hbind s₁ (.ref a)) (.cons rfl .nil) sp) fun r s' q => ?_
    cases r with
    | error e => exact q.elim
    | ok fl =>
      cases fl with
      | next => exact q.elim
      | brk => exact q.elim
      | cont => exact q.elim
      | ret u =>
        obtain ⟨v, H', os, bare, un, hok', r', qv⟩ := q
        have qv' : v = .bl true := qv
        subst qv'
        obtain rfl : u = Value.bool true := r'
        refine ⟨rfl, OldK.of_keep fun b o e => ?_, os, bare⟩
        cases hb' : H b with
        | none => exact un.keep b o e hb' (fun z => absurd (show b ∈ ([] : List Addr) from z) (by simp)) (by simp)
        | some u =>
          obtain ⟨_, ob, xs, rfl⟩ := only b u hb'
          have z2 := un.frzs b ob _ hb'
          obtain ⟨e1, _⟩ := hok b _ hb'
          obtain ⟨e2, _⟩ := hok' b _ z2
          rw [e] at e1
          cases e1
          exact e2
  cases hk : g.K.lookup a with
  | some o =>
    have e := KX a o hk
    rw [ha] at e
    cases e
    exact main (fun _ => none) (fun b u z => (nomatch z)) (.inr ⟨_, vs.toArray, _, hk, rfl, rfl, rfl, by rw [List.size_toArray, lenV]; exact hl, by simpa using rv⟩) (fun b u z => (nomatch z)) fun u z => (nomatch z)
  | none =>
    refine main (fun b => if b = a then some (.frz { cls := .type "list", data := .seq vs.toArray } (.lst (ns.map V.int))) else none) (fun b u z => ?_) (.inl ⟨_, if_pos rfl⟩) (fun b u z => ?_) fun u z => hk
    · by_cases hba : b = a
      · have z' := (if_pos hba).symm.trans z
        cases z'
        exact ⟨hba, _, _, rfl⟩
      · have z' := (if_neg hba).symm.trans z
        cases z'
    · by_cases hba : b = a
      · have z' := (if_pos hba).symm.trans z
        cases z'
        subst hba
        exact ⟨ha, by rw [List.length_map]; exact hl, vs, _, rv, ha⟩
      · have z' := (if_neg hba).symm.trans z
        cases z'
/-- the goal that k_head leaves -/
theorem law_walk {l : PySem.W.OpenLaw} {n k : Nat} {q : Program} {loose : List Str} {XP : (Str → Option Value) → Heap → Prop} {YP : World → Heap → Prop} {d : DefRec} {K : Params → PySem.W.Frag} {T : Tab} {x y : Str}
    (hn : l.most = some n) (hn2 : n ≤ sizeLine) (hdf : d.params.defaults = []) (hr : RmG k callerA) (hY : ∀ (w : World) (h : Heap), YP w h → (K w.params).In h)
    (F : ∀ (w : World) (mg : Str → Option Value) (fa : Addr) (h : Heap), (K w.params).In h → h.Ns mainGlobals mg → mg d.name = some (.ref fa) →
      ∃ fd : FuncData, (∀ (s : Shared) (u : Value), BindsTo s fd ⟨[u], []⟩ [(x, u)]) ∧ ∀ base : Heap, (K w.params).In base → base.Ns mainGlobals mg → FnG l.prog w ⟨K w.params, mg⟩ base CX0 k fa fd [x] (spN ⟨K w.params, mg⟩ (callN T k y) 1))
    (hrun : ∀ ns : List Int, ns.length ≤ n → ∃ hE, callN T k y [.scr ns] [] = .ok (.bl true) hE) :
    PySem.W.WalkO q loose XP YP l.row.toRowW d [] (fun f vs => PySem.call f vs) := by
  refine Att.attach_call hn hdf fun w s₀ s₁ mg mb fa o pm cd doc a vs ns G Y ho hd hcd hmg hobj hints hlen hg => ?_
  have KX := hY w _ Y
  obtain ⟨fd, hb, hF⟩ := F w mg fa _ KX G.T.g hmg
  obtain ⟨hE, he⟩ := hrun ns hlen
  exact law_goes (g := ⟨K w.params, mg⟩) KX G.T.g G.T.b G.T.builtins G.T.nolimit hg hobj hints (Nat.le_trans hlen hn2) hr hF hb he
end Ax
namespace Ax
open PySem PySem.Spec PyProof.Rows L2

/-- a list of texts, or a tuple of them -/
def joinD (s : Str) (b : D) (h : Hh) : Res D := match asS h b with
  | some ds => match strsOf ds with
    | some ys => if decide ((ys.map (·.length)).sum + ys.length * s.length ≤ 16777216) then .ok (.str (Txt.join s ys)) h else .bad
    | none => .bad
  | none => .bad
def splitD (s : Str) (b : D) (h : Hh) : Res D := match b with
  | .str t => if !(t.length == 0) && decide (s.length + 2 ≤ sizeLine) then .ok (.lst ((Txt.split s t).map .str)) h else .bad
  | _ => .bad
def xStr1 (f : Str → D → Hh → Res D) (a b : Fn) : Fn := fun ρ h => (a ρ h).bind fun x h1 => match x with
  | .str s => (b ρ h1).bind fun y h2 => f s y h2
  | _ => .bad
/-- the methods of lists by number -/
def appD (a b : D) (h : Hh) : Res D := match a with
  | .ref n => match h[n]? with
    | some (.lst ds) => if decide (ds.length < sizeLine) then .ok .non (h.set n (.lst (ds ++ [b]))) else .bad
    | _ => .bad
  | _ => .bad
def extD (a b : D) (h : Hh) : Res D := match a with
  | .ref n => match h[n]?, asL h b with
    | some (.lst ds), some es => if sz (ds.length + es.length) then .ok .non (h.set n (.lst (ds ++ es))) else .bad
    | _, _ => .bad
  | _ => .bad
def clrD (a : D) (h : Hh) : Res D := match a with
  | .ref n => match h[n]? with
    | some (.lst ds) => .ok .non (h.set n (.lst []))
    | _ => .bad
  | _ => .bad
/-- written dicts -/
def xInW (wd : List (Str × D)) (a : Fn) : Fn := fun ρ h => (a ρ h).bind fun x h1 => match x with | .str z => .ok (.bl (wd.lookup z).isSome) h1 | _ => .bad
def optD (o : Option D) (h : Hh) : Res D := match o with | some d => .ok d h | none => .bad
def xIdxW (wd : List (Str × D)) (a : Fn) : Fn := fun ρ h => (a ρ h).bind fun x h1 => match x with | .str z => optD (wd.lookup z) h1 | _ => .bad
/-- the module's name x is a written dict with the entries wd -/
structure KW (g : Gx) (wo : World) (x : Str) (wd : List (Str × D)) : Prop where
  ex : ∃ (d : Addr) (es : Array DictEntry) (n : Nat), g.mg x = some (.ref d) ∧ KDict g.K wo d es n ∧ ∀ z : Str,
    (wd.lookup z = none ∧ PySem.W.nsIn g.K d z = some none) ∨ ∃ dd u v, wd.lookup z = some dd ∧ PySem.W.nsIn g.K d z = some (some u) ∧ RelV v u ∧ ∀ w H, RV g w H dd v

section
variable {g : Gx} {E : XK} {X : Cx} {a b o e : Expr} {fa fb : Fn} {pos p apos : Pos} {wd : List (Str × D)} {x : Str} {wo : World}
theorem q_inW (xo : XO g X) (hw : X.w = wo) (k : KW g wo x wd) (hg : Gl X x) (ha : PE X a (tI g E fa)) (hd : (x == ("__debug__" : Str)) = false := by decide +kernel) : PE X (.Compare a [.In] [.Name x p] pos) (tI g E (xInW wd fa)) := by
  obtain ⟨d, es, n, hm, kd, kn⟩ := k.ex
  subst hw
  rw [← xo.mg] at hm
  rw [← xo.K] at kd kn
  refine ⟨fun pins s σ H Q I ⟨w, ρ, h, sr, q⟩ => (pe_cmpR (op_in_kd kd) ha (pe_glob (v := .ref d) hg hm rfl hd) rfl).run pins s σ H Q I (tI_go sr q fun V H1 w1 x h1 l sr1 rv o1 => ?_)⟩
  split at o1
  · rename_i z
    cases rv
    rcases kn z with ⟨e1, e2⟩ | ⟨dd, u, v, e1, e2, e3, e4⟩
    · rw [e1] at o1
      exact ⟨z, none, rfl, rfl, e2, o1.keep sr1.hr (.bl _)⟩
    · rw [e1] at o1
      exact ⟨z, some u, rfl, rfl, e2, o1.keep sr1.hr (.bl _)⟩
  · exact o1.elim
theorem q_idxW (xo : XO g X) (hw : X.w = wo) (k : KW g wo x wd) (hg : Gl X x) (ha : PE X a (tI g E fa)) (hs : PlainIx a := by intro _ _; rfl) (hd : (x == ("__debug__" : Str)) = false := by decide +kernel) : PE X (.Subscript (.Name x p) a pos) (tI g E (xIdxW wd fa)) := by
  obtain ⟨d, es, n, hm, kd, kn⟩ := k.ex
  subst hw
  rw [← xo.mg] at hm
  rw [← xo.K] at kd kn
  refine ⟨fun pins s σ H Q I ⟨w, ρ, h, sr, q⟩ => (pe_ix ix_kdict (pe_glob (v := .ref d) hg hm rfl hd) ha hs).run pins s σ H Q I (tI_go sr q fun V H1 w1 x h1 l sr1 rv o1 => ?_)⟩
  split at o1
  · rename_i z
    cases rv
    rcases kn z with ⟨e1, e2⟩ | ⟨dd, u, v, e1, e2, e3, e4⟩
    · rw [e1] at o1
      exact o1.elim
    · rw [e1] at o1
      exact ⟨d, z, v, rfl, rfl, ⟨es, n, u, kd.at_, kd.lit, e2, e3⟩, OKg.keep (a := dd) o1 sr1.hr (e4 _ _)⟩
  · exact o1.elim
/-- text.m(e) -/
theorem q_str1 {f : Str → D → Hh → Res D} {r : V → List V → Hp → VK → Prop} {e0 : Expr} (hp : ∀ {to te : TE}, PE X o to → PE X e te → PE X e0 (tM1 r to te)) (ho : PE X o (tI g E fa)) (he : PE X e (tI g E fb))
    (hr : ∀ w H h s d V Q, HR g w h H → RV g w H d V → OKg g (RV g) w H E Q (f s d h) → r (.str s) [V] H Q) : PE X e0 (tI g E (xStr1 f fa fb)) :=
  ⟨fun pins s σ H Q I ⟨w, ρ, h, sr, q⟩ => (hp ho he).run pins s σ H Q I (tI_go sr q fun V H1 w1 d h1 l sr1 rv o1 => by
    split at o1
    · cases rv
      exact ⟨⟨_, rfl⟩, tI_go sr1 o1 fun V2 H2 w2 d2 h2 l2 sr2 rv2 o2 => hr w2 H2 h2 _ d2 V2 Q sr2.hr rv2 o2⟩
    · exact o1.elim)⟩
theorem join_r {w : Wd} {H : Hp} {h : Hh} {s : Str} {d : D} {y : V} {Q : VK} (hr : HR g w h H) (rv : RV g w H d y) (q : OKg g (RV g) w H E Q (joinD s d h)) :
    ∃ a p, ∃ ys : List Str, V.str s = .str a ∧ [y] = [.ref p] ∧ (SqL X.K H p (ys.map V.str) ∨ SqT X.K H p (ys.map V.str)) ∧ (ys.map (·.length)).sum + ys.length * a.length ≤ 16777216 ∧ Q (.str (Txt.join a ys)) H := by
  unfold joinD at q
  split at q
  · rename_i e1
    split at q
    · rename_i e2
      split at q
      · rename_i hz
        obtain ⟨p, vs, rfl, hq, t⟩ := asS_ok (K := X.K) e1 hr rv
        have e3 := strsOf_eq e2
        subst e3
        have e4 := t.toStrs
        subst e4
        exact ⟨_, _, _, rfl, rfl, hq, of_decide_eq_true hz, q.keep hr (.str _)⟩
      · exact q.elim
    · exact q.elim
  · exact q.elim
theorem split_r {w : Wd} {H : Hp} {h : Hh} {s : Str} {d : D} {y : V} {Q : VK} (hr : HR g w h H) (rv : RV g w H d y) (q : OKg g (RV g) w H E Q (splitD s d h)) :
    ∃ a b, V.str s = .str a ∧ [y] = [.str b] ∧ (b.length == 0) = false ∧ a.length + 2 ≤ sizeLine ∧ rNewStrs (Txt.split a b) H Q := by
  unfold splitD at q
  split at q
  · cases rv
    split at q
    · rename_i hz
      simp only [Bool.and_eq_true, decide_eq_true_eq, Bool.not_eq_true'] at hz
      exact ⟨_, _, rfl, rfl, hz.1, hz.2, q.lst hr (RVs.strs _)⟩
    · exact q.elim
  · exact q.elim
end
end Ax
namespace Ax
open PySem PySem.Spec PyProof.Rows L2
section
variable {g : Gx} {E : XK} {X : Cx} {a b c elt tg iter : Expr} {pos p p2 : Pos} {fa fb fc e : Fn} {es ifs : List Expr} {fs fi : Fl}
theorem XO.blk (xo : XO g X) {s : Shared} {H : Hp} {scope : Scope} {ce : Env} {fp : List Addr} : XO g (X.blk s H scope ce fp) := ⟨xo.K, xo.mg, xo.calm, xo.nd, xo.un, xo.gd⟩
theorem chain_rd {f f' : D → D → Hh → Res D} {σ : L2.St} {H : Hp} {Q : VK} (hq : tI g E (xChain f f' fa fb fc) σ H Q) : tChain (rD g E f) (rD g E f') (tI g E fa) (tI g E fb) (tI g E fc) σ H Q := by
  obtain ⟨w, ρ, h, sr, o⟩ := hq
  exact tI_go sr o fun V H1 w1 a h1 l sr1 rv o1 => tI_go sr1 o1 fun V2 H2 w2 b h2 l2 sr2 rv2 o2 => ⟨w2, h2, a, b, sr2.hr, rv.mono l2, rv2,
    (OKg.bind o2).imp fun Z H3 ⟨w3, z, h3, l3, hr3, rz, o3⟩ => by
      obtain ⟨k, rfl, o4⟩ := isB_go o3 rz
      refine ⟨k, rfl, ?_⟩
      cases k with
      | true => exact tI_go (sr2.step l3 hr3) o4 fun V4 H4 w4 u h4 l4 sr4 rv4 o5 => ⟨w4, h4, b, u, sr4.hr, (rv2.mono l3).mono l4, rv4, o5⟩
      | false => exact o4.keep hr3 (.bl false)⟩
theorem w_chain {op op' : CmpOp} {f f' : D → D → Hh → Res D} (ho : OpR X (compareOp op) (rD g E f)) (ho' : OpR X (compareOp op') (rD g E f')) (ha : PE X a (tI g E fa)) (hb : PE X b (tI g E fb)) (hc : PE X c (tI g E fc)) (hm : lastMarks [op, op'] [b, c] = false := by rfl) :
    PE X (.Compare a [op, op'] [b, c] pos) (tI g E (xChain f f' fa fb fc)) := ⟨fun pins s σ H Q I h => (pe_chain ho ho' ha hb hc hm).run pins s σ H Q I (chain_rd h)⟩
theorem w_tchain {op op' : CmpOp} {f f' : D → D → Hh → Res D} (ho : OpR X (compareOp op) (rD g E f)) (ho' : OpR X (compareOp op') (rD g E f')) (ha : PE X a (tI g E fa)) (hb : PE X b (tI g E fb)) (hc : PE X c (tI g E fc)) (hm : lastMarks [op, op'] [b, c] = false := by rfl) :
    PT X (.Compare a [op, op'] [b, c] pos) (tT g E (yV (xChain f f' fa fb fc))) :=
  q_tchain (f := f) (f' := f') ha hb hc (pt_chain ho ho' ha hb hc hm) fun σ H Q hq => chain_rd hq
/-- a type's name as a value -/
theorem w_ty {x : Str} {n : String} (xo : XO g X) (hg : Gl X x) (hm : g.mg x = none) (hv : bootBuiltins x = some (.type n) := by decide +kernel) (hn : x ≠ "__name__" := by decide +kernel) (hd : (x == ("__debug__" : Str)) = false := by decide +kernel) : PE X (.Name x pos) (tI g E (xC (.val (.ty n)))) :=
  q_c (pe_bltn (v := .ty n) hg (by rw [xo.mg]; exact hm) hv rfl hn hd) fun _ _ => .val _
/-- a text of the module -/
theorem w_gstr {x z : Str} (xo : XO g X) (hg : Gl X x) (hm : ∃ t, g.mg x = some (.str z t)) (hd : (x == ("__debug__" : Str)) = false := by decide +kernel) : PE X (.Name x pos) (tI g E (xC (.str z))) := by
  obtain ⟨t, hm⟩ := hm
  exact q_c (pe_glob (v := .str z) hg (by rw [xo.mg]; exact hm) ⟨t, rfl⟩ hd) fun _ _ => .str z
theorem w_bi (xo : XO g X) (bi : Bi) {x : Str} (nb : ∀ b : Bi, g.mg (biN b) = none) (hg : Gl X x) (hx : x = biN bi) (ha : PA X (a :: es) (tL g E fs)) (he : starEach (a :: es) X.env = (false, eval a X.env) :: starEach es X.env := by rfl)
    (hpl : (backTo pos (starEach es X.env)).any (·.1) = false := by rfl) : PE X (.Call (.Name x p) (a :: es) [] pos) (tI g E (xBi bi fs)) := q_bi xo bi hg (by rw [xo.mg, hx]; exact nb bi) hx ha he hpl
theorem w_rng1 (xo : XO g X) (hg : Gl X "range") (hm : g.mg "range" = none) (ha : PA X [a] (tL g E fs)) (hs : starEach [a] X.env = [(false, eval a X.env)] := by rfl) : PI X tg (.Call (.Name "range" p) [a] [] pos) (tIt g E (iR1 fs)) :=
  q_rng1 (fun h => pi_range1 hg (by rw [xo.mg]; exact hm) h hs) ha
theorem w_rng2 (xo : XO g X) (hg : Gl X "range") (hm : g.mg "range" = none) (ha : PA X [a, b] (tL g E fs)) (hs : starEach [a, b] X.env = [(false, eval a X.env), (false, eval b X.env)] := by rfl) (hs2 : starEach [b] X.env = [(false, eval b X.env)] := by rfl) : PI X tg (.Call (.Name "range" p) [a, b] [] pos) (tIt g E (iR2 fs)) :=
  q_rng2 (fun h => pi_range2 hg (by rw [xo.mg]; exact hm) h hs hs2) ha
theorem w_for {is : List Nat} {t : Fg} {zb : Fs} {body : List Stmt} (xo : XO g X) (hp : PassesOwn (model X.prog X.w) X.A X.env X.xe) (hi : PI X tg iter (tIt g E fi)) (hg : PG X tg (tG g is t)) (hb : PSs X body (tS g E zb)) (hs : ∀ x, foldedSetIterable iter X.env x = pure x := by intro _; rfl) : PS X (.For tg iter body [] pos) (tS g E (zFor fi t zb)) :=
  q_for (fun h1 h2 h3 => ps_for hp xo.calm h1 h2 h3 hs) hi hg hb
theorem w_set {i : Nat} {x : Str} (xo : XO g X) (hi : X.N[i]? = some x) (hx : Loc X.env.scope x) (ha : PE X a (tI g E fa)) (hs : swapsWith a (some (.Name x p2)) pos.line X.env = pure false := by rfl) (hf : X.fn x = true ∨ X.env.scope.names.lookup x = some .local := by first | exact .inl rfl | exact .inr rfl) : PS X (.Assign [.Name x p2] a pos) (tS g E (zSet i fa)) :=
  q_set (ps_set xo.nd hi hx ha hs hf) fun _ _ _ h => h
theorem w_expr (ha : PE X a (tI g E fa)) (hs : swapsWith a none pos.line X.env = pure false := by rfl) : PS X (.Expr a pos) (tS g E (zExpr fa)) := q_expr (fun h => ps_expr h hs) ha
def lcF : List D → Hh → Res D := fun es h2 => .ok (.lst es) h2
def lcN : List D → Hh → Res D := fun es h2 => .ok (.ref h2.length) (h2 ++ [.lst es])
theorem w_lc {f : List D → Hh → Res D} (hf : Hands g E f) {is : List Nat} {own : List (Str × Nat)} {t : Fg} {c : Ft} {scope : Scope} (xo : XO g X) (ok : BlkOk X.N X.env.scope scope own) (hi : PI X tg iter (tIt g E fi))
    (hg : ∀ (s : Shared) (H : Hp) (C : Addr) (cl : List (Str × Addr)) (fp : List Addr), PG (X.blk s H scope (compEnvC scope cl C X.env) fp) tg (tG g is t)) (ht : ∀ (s : Shared) (H : Hp) (C : Addr) (cl : List (Str × Addr)) (fp : List Addr), PTs (X.blk s H scope (compEnvC scope cl C X.env) fp) ifs (tT g EF c))
    (he : ∀ (s : Shared) (H : Hp) (C : Addr) (cl : List (Str × Addr)) (fp : List Addr), PE (X.blk s H scope (compEnvC scope cl C X.env) fp) elt (tI g EF e)) (hsub : ∀ i ∈ is, i ∈ own.map (·.2) := by decide) (hs : ∀ x, foldedSetIterable iter X.env x = pure x := by intro _; rfl) :
    PE X (.ListComp elt [⟨tg, iter, ifs, 0⟩] scope pos) (tI g E (xLcG f fi (own.map (·.2)) t c e)) :=
  ⟨fun pins s σ H Q I h => (pe_lc xo.calm xo.nd hi ok hg ht he hs).run pins s σ H Q I (lc_rd hf hsub h)⟩
theorem w_setLc {f : List D → Hh → Res D} (hf : Hands g E f) {i : Nat} {x : Str} {is : List Nat} {own : List (Str × Nat)} {t : Fg} {c : Ft} {scope : Scope} (xo : XO g X) (hy : X.N[i]? = some x) (hyl : X.env.scope.names.lookup x = some .local)
    (hsw : swapsWith (.ListComp elt [⟨tg, iter, ifs, 0⟩] scope p) (some (.Name x p2)) pos.line X.env = pure true) (ok : BlkOk X.N X.env.scope scope own) (hi : PI X tg iter (tIt g E fi))
    (hg : ∀ (s : Shared) (H : Hp) (C : Addr) (cl : List (Str × Addr)) (fp : List Addr), PG (X.blk s H scope (compEnvC scope cl C X.env) fp) tg (tG g is t)) (ht : ∀ (s : Shared) (H : Hp) (C : Addr) (cl : List (Str × Addr)) (fp : List Addr), PTs (X.blk s H scope (compEnvC scope cl C X.env) fp) ifs (tT g EF c))
    (he : ∀ (s : Shared) (H : Hp) (C : Addr) (cl : List (Str × Addr)) (fp : List Addr), PE (X.blk s H scope (compEnvC scope cl C X.env) fp) elt (tI g EF e)) (hsub : ∀ i ∈ is, i ∈ own.map (·.2) := by decide) (hs : ∀ x, foldedSetIterable iter X.env x = pure x := by intro _; rfl) :
    PS X (.Assign [.Name x p2] (.ListComp elt [⟨tg, iter, ifs, 0⟩] scope p) pos) (tS g E (zSet i (xLcG f fi (own.map (·.2)) t c e))) :=
  q_set (ps_setLc xo.calm xo.nd hy hyl hsw hi ok hg ht he hs) fun _ _ _ h => lc_rd hf hsub h
theorem w_setix (hv : PE X c (tI g E fc)) (ho : PE X a (tI g E fa)) (hi : PE X b (tI g E fb)) (ha : ∀ v, assign (.Subscript a b p2) X.env v = (do
      let ov ← holding [v] (eval a X.env)
      let iv ← holding [v, ov] (eval b X.env)
      standAt p2
      holding [v, ov, iv] (setItem ov iv v)
      release [v, ov, iv] []) := by intro _; rfl)
    (hs : swapsWithSole [.Subscript a b p2] c pos.line X.env = pure false := by rfl) (hw : swappedStores [.Subscript a b p2] c X.env = pure none := by rfl) (h1 : (assignEach [.Subscript a b p2] X.env).map (·.2) = [assign (.Subscript a b p2) X.env] := by rfl) :
    PS X (.Assign [.Subscript a b p2] c pos) (tS g E (zSetIx fa fb fc)) := q_setix (ps_asg hv (pg_sub ho hi set_ok ha) hs hw h1)
end
section
variable {g : Gx} {E : XK} {X : Cx} {a b c : Expr} {fa fb fc : Fn} {fs : Fl} {pos p2 : Pos}
theorem w_augix (ho : PE X a (tI g E fa)) (hi : PE X b (tI g E fb)) (hv : PE X c (tI g E fc)) (ha : ∀ ov iv new, augStore b ov iv new = (do holding [new, ov, iv] (setItem ov iv new); release [new, ov, iv] []; pure .next) := by intros; rfl) :
    PS X (.AugAssign (.Subscript a b p2) .Add c pos) (tS g E (zAugIx iaddD fa fb fc)) := q_augix (ps_augS ho hi get_ok hv ipadd_ok set_ok ha)
/-- a, b = x, y: two names that are plain locals -/
theorem w_par {i j : Nat} {x y : Str} {px py pt pt2 : Pos} {kt k2 : Nat} (xo : XO g X) (hi : X.N[i]? = some x) (hj : X.N[j]? = some y) (hij : i ≠ j) (hx : X.env.scope.names.lookup x = some .local) (hy : X.env.scope.names.lookup y = some .local) (ha : PA X [a, b] (tL g E fs))
    (hw : swappedStores [.Tuple [.Name x px, .Name y py] kt pt] (.Tuple [a, b] k2 pt2) X.env = pure (some [x, y])) (hs : swapsWithSole [.Tuple [.Name x px, .Name y py] kt pt] (.Tuple [a, b] k2 pt2) pos.line X.env = pure false := by rfl) :
    PS X (.Assign [.Tuple [.Name x px, .Name y py] kt pt] (.Tuple [a, b] k2 pt2) pos) (tS g E (zPar i j fs)) := q_par (ps_par xo.calm xo.nd hi hj hij hx hy ha hw hs)
end
end Ax
namespace Ax
open PySem PySem.Spec PyProof.Rows L2
theorem keyOf_all {P : Params} {z : Str} : ∀ {l : List DictEntry} {ks : List Str}, l.map He.keyOf = He.keysIn P ks → z ∉ ks → l.find? (·.key.isStr z) = none ∧ l.any (·.refKey) = false
  | [], _, _, _ => ⟨rfl, rfl⟩
  | e :: r, [], h, _ => by cases h
  | e :: r, k :: ks, h, hz => by
    have h1 : He.keyOf e :: r.map He.keyOf = some (k, PyData.keyHash P k) :: He.keysIn P ks := h
    injection h1 with h2 h3
    have hz1 : z ≠ k := fun q => hz (by rw [q]; exact List.mem_cons_self ..)
    have hz2 : z ∉ ks := fun q => hz (List.mem_cons_of_mem _ q)
    obtain ⟨i1, i2⟩ := keyOf_all h3 hz2
    unfold He.keyOf at h2
    split at h2
    · rename_i x t q
      have h4 := Option.some.inj h2
      obtain ⟨h5, h6⟩ := Prod.mk.inj h4
      subst h5
      refine ⟨?_, ?_⟩
      · rw [List.find?_cons_of_neg, i1]
        rw [q]
        simp only [Value.isStr, Bool.not_eq_true, beq_eq_false_iff_ne]
        exact fun e => hz1 e.symm
      · rw [List.any_cons, i2, DictEntry.refKey, q]
        rfl
    · cases h2
theorem nsIn_no {K : PySem.W.Frag} {P : Params} {a : Addr} {ks : List Str} {z : Str} (h : He.dicW K a = some (He.keysIn P ks)) (hz : z ∉ ks) : PySem.W.nsIn K a z = some none := by
  unfold He.dicW at h
  unfold PySem.W.nsIn
  split at h
  · rename_i c es n sl q
    rw [q]
    split at h
    · have h1 := Option.some.inj h
      obtain ⟨i1, i2⟩ := keyOf_all h1 hz
      simp only [i1, i2]
      rfl
    · cases h
  · cases h
/-- one row a key -/
def KRow (g : Gx) (d : Addr) (p : Str × D) : Prop := ∃ u v, PySem.W.nsIn g.K d p.1 = some (some u) ∧ RelV v u ∧ ∀ w H, RV g w H p.2 v
theorem krow_int {g : Gx} {d : Addr} {x : Str} {i : Int} {t : Tok} (h : PySem.W.nsIn g.K d x = some (some (.int i t))) : KRow g d (x, .int i) := ⟨_, .int i, h, ⟨t, rfl⟩, fun _ _ => .int i⟩
theorem lookup_in {wd : List (Str × D)} {z : Str} {g : Gx} {d : Addr} : (∀ p ∈ wd, KRow g d p) → (wd.lookup z = none ∧ z ∉ wd.map (·.1)) ∨ ∃ dd u v, wd.lookup z = some dd ∧ PySem.W.nsIn g.K d z = some (some u) ∧ RelV v u ∧ ∀ w H, RV g w H dd v := by
  induction wd with
  | nil => exact fun _ => .inl ⟨rfl, by simp⟩
  | cons p r ih =>
    intro h
    by_cases e : z = p.1
    · obtain ⟨u, v, h1, h2, h3⟩ := h p (List.mem_cons_self ..)
      obtain ⟨x, dd⟩ := p
      cases e
      exact .inr ⟨dd, u, v, List.lookup_cons_self, h1, h2, h3⟩
    · obtain ⟨x, dd⟩ := p
      have e2 : (z == x) = false := by simpa using e
      rcases ih fun p hp => h p (List.mem_cons_of_mem _ hp) with ⟨i1, i2⟩ | ⟨d2, u, v, i1, i2⟩
      · refine .inl ⟨?_, ?_⟩
        · simp only [List.lookup, e2, i1]
        · simp only [List.map_cons, List.mem_cons, not_or]
          exact ⟨e, i2⟩
      · refine .inr ⟨d2, u, v, ?_, i2⟩
        simp only [List.lookup, e2, i1]
theorem kw_of {g : Gx} {wo : World} {x : Str} {d : Addr} {wd : List (Str × D)} (hm : g.mg x = some (.ref d)) (hd : He.dicW g.K d = some (He.keysIn wo.params (wd.map (·.1)))) (hr : ∀ p ∈ wd, KRow g d p) : KW g wo x wd := by
  obtain ⟨es, n, kd⟩ := He.dicW_ok hd
  refine ⟨d, es, n, hm, kd, fun z => ?_⟩
  rcases lookup_in (z := z) hr with ⟨h1, h2⟩ | h
  · exact .inl ⟨h1, nsIn_no hd h2⟩
  · exact .inr h
theorem dicW_at {K : PySem.W.Frag} {P : Params} {d : Addr} {es : Array DictEntry} {n : Nat} {ks : List Str} (h : K.lookup d = some ⟨.type "dict", none, .dict es n, #[]⟩) (he : es.toList.map He.keyOf = He.keysIn P ks) (hl : (d == sysModules) = false) : He.dicW K d = some (He.keysIn P ks) := by
  unfold He.dicW
  rw [h, ← he]
  simp only [hl]
  rfl
end Ax
namespace Ax
open PySem PySem.Spec PyProof.Rows L2
section
variable {α β : Type} {a b c : Fn} {t u : Ft} {fs : Fl} {ρ ρ1 : Rho} {h h1 : Hh} {za zb : Fs} {d : D}
@[simp] theorem bind_ok (x : α) (h : Hh) (f : α → Hh → Res β) : (Res.ok x h).bind f = f x h := id rfl
@[simp] theorem of_ok (x : α) (h : Hh) (f : α → Hh → SRes) : SRes.of (Res.ok x h) f = f x h := id rfl
@[simp] theorem xV_at {i : Nat} : xV i ρ h = (match ρ[i]? with | some (some d) => .ok d h | _ => .bad) := id rfl
@[simp] theorem xC_at : xC d ρ h = .ok d h := id rfl
@[simp] theorem xBin_at {op : D → D → Hh → Res D} : xBin op a b ρ h = (a ρ h).bind fun x h1 => (b ρ h1).bind fun y h2 => op x y h2 := id rfl
@[simp] theorem xUn_at {op : D → Hh → Res D} : xUn op a ρ h = (a ρ h).bind fun x h1 => op x h1 := id rfl
@[simp] theorem xNil_at : xNil ρ h = .ok [] h := id rfl
@[simp] theorem xCons_at : xCons a fs ρ h = (a ρ h).bind fun x h1 => (fs ρ h1).bind fun xs h2 => .ok (x :: xs) h2 := id rfl
@[simp] theorem xTup_at : xTup fs ρ h = (fs ρ h).bind fun ds h1 => if sz ds.length then .ok (.tup ds) h1 else .bad := id rfl
@[simp] theorem xLst_at : xLst fs ρ h = (fs ρ h).bind fun ds h1 => if sz ds.length then .ok (.lst ds) h1 else .bad := id rfl
@[simp] theorem xNlst_at : xNlst fs ρ h = (fs ρ h).bind fun ds h1 => if sz ds.length then .ok (.ref h1.length) (h1 ++ [.lst ds]) else .bad := id rfl
@[simp] theorem xDct0_at : xDct0 ρ h = .ok (.dct []) h := id rfl
@[simp] theorem isB_at {k : Bool} : isB (.bl k) h = .ok k h := id rfl
@[simp] theorem xAnd_at : xAnd a b ρ h = (a ρ h).bind fun x h1 => (isB x h1).bind fun c h2 => if c then b ρ h2 else .ok (.bl false) h2 := id rfl
@[simp] theorem xOr_at : xOr a b ρ h = (a ρ h).bind fun x h1 => (isB x h1).bind fun c h2 => if c then .ok (.bl true) h2 else b ρ h2 := id rfl
@[simp] theorem xNot_at : xNot a ρ h = (a ρ h).bind fun x h1 => (isB x h1).bind fun c h2 => .ok (.bl (!c)) h2 := id rfl
@[simp] theorem xIfe_at : xIfe t a b ρ h = (t ρ h).bind fun c h1 => if c then a ρ h1 else b ρ h1 := id rfl
@[simp] theorem xIdx_at : xIdx a b ρ h = (a ρ h).bind fun x h1 => (b ρ h1).bind fun y h2 => idxD x y h2 := id rfl
@[simp] theorem xNo_at : xNo ρ h = .ok none h := id rfl
@[simp] theorem xSome_at : xSome a ρ h = (a ρ h).bind fun x h1 => isI x h1 := id rfl
@[simp] theorem isI_at {i : Int} : isI (.int i) h = .ok (some i) h := id rfl
@[simp] theorem xSlc_at {lo hi : Fo} : xSlc a lo hi ρ h = (a ρ h).bind fun x h1 => (lo ρ h1).bind fun l h2 => (hi ρ h2).bind fun u h3 => slcD x l u h3 := id rfl
@[simp] theorem xBi_at {bi : Bi} : xBi bi fs ρ h = (fs ρ h).bind fun ds h1 => biS bi ds h1 := id rfl
@[simp] theorem xCall_at {n : Nat} {cl : List D → Hh → Res D} : xCall n cl fs ρ h = (fs ρ h).bind fun ds h1 => if ds.length = n then cl ds h1 else .bad := id rfl
@[simp] theorem yV_at : yV a ρ h = (a ρ h).bind fun x h1 => isB x h1 := id rfl
@[simp] theorem yAnd_at : yAnd t u ρ h = (t ρ h).bind fun c h1 => if c then u ρ h1 else .ok false h1 := id rfl
@[simp] theorem yOr_at : yOr t u ρ h = (t ρ h).bind fun c h1 => if c then .ok true h1 else u ρ h1 := id rfl
@[simp] theorem yNot_at : yNot t ρ h = (t ρ h).bind fun c h1 => .ok (!c) h1 := id rfl
@[simp] theorem yYes_at : yYes ρ h = .ok true h := id rfl
@[simp] theorem zNext_at : zNext ρ h = .nx ρ h := id rfl
@[simp] theorem zSet_at {i : Nat} : zSet i a ρ h = SRes.of (a ρ h) fun d h1 => .nx (ρ.set i (some d)) h1 := id rfl
@[simp] theorem zIf_at : zIf t za zb ρ h = SRes.of (t ρ h) fun c h1 => if c then za ρ h1 else zb ρ h1 := id rfl
@[simp] theorem zRet_at : zRet a ρ h = SRes.of (a ρ h) fun d h1 => .rt d h1 := id rfl
@[simp] theorem zExpr_at : zExpr a ρ h = SRes.of (a ρ h) fun _ h1 => .nx ρ h1 := id rfl
@[simp] theorem zSetIx_at : zSetIx a b c ρ h = SRes.of (c ρ h) fun v h1 => SRes.of (a ρ h1) fun o h2 => SRes.of (b ρ h2) fun i h3 => match setAt o i v h3 with | some h4 => .nx ρ h4 | none => .bad := id rfl
@[simp] theorem zAugIx_at {op : D → D → Hh → Res D} : zAugIx op a b c ρ h = SRes.of (a ρ h) fun o h1 => SRes.of (b ρ h1) fun i h2 => SRes.of (lgetD o i h2) fun x h3 => SRes.of (c ρ h3) fun y h4 => SRes.of (op x y h4) fun z h5 => match setAt o i z h5 with | some h6 => .nx ρ h6 | none => .bad := id rfl
@[simp] theorem zSeq_nx {ρ1 : Rho} {h1 : Hh} : (match (SRes.nx ρ1 h1 : SRes) with | .nx ρ h => zb ρ h | r => r) = zb ρ1 h1 := id rfl
theorem zSeq_at : zSeq za zb ρ h = (match za ρ h with | .nx ρ h => zb ρ h | r => r) := id rfl
@[simp] theorem zFor_at {it : Fl} {tg : Fg} : zFor it tg za ρ h = SRes.of (it ρ h) fun ds h1 => loopS tg za ds ρ h1 := id rfl
@[simp] theorem gN_at {i : Nat} : gN i d ρ = some (ρ.set i (some d)) := id rfl
theorem seq_nx (e : za ρ h = .nx ρ1 h1) : zSeq za zb ρ h = zb ρ1 h1 := by rw [zSeq_at, e]
theorem seq_rt (e : za ρ h = .rt d h1) : zSeq za zb ρ h = .rt d h1 := by rw [zSeq_at, e]
@[simp] theorem endB_rt : endB (.rt d h) = .ok d h := id rfl
@[simp] theorem endB_nx : endB (.nx ρ h) = .ok .non h := id rfl
@[simp] theorem eq_int {i j : Int} : eqD (.int i) (.int j) h = .ok (.bl (decide (i = j))) h := by
  simp [eqD, difL, asL, toD, toP, dOk, PyData.plain, PyData.depth, PyData.eqv]
  rfl
@[simp] theorem ne_int {i j : Int} : neD (.int i) (.int j) h = .ok (.bl (!decide (i = j))) h := by
  simp [neD, difL, asL, toD, toP, dOk, PyData.plain, PyData.depth, PyData.eqv]
  rfl
@[simp] theorem eq_str {i j : Str} : eqD (.str i) (.str j) h = .ok (.bl (decide (i = j))) h := by
  simp [eqD, difL, asL, toD, toP, dOk, PyData.plain, PyData.depth, PyData.eqv]
  by_cases e : i = j <;> simp [e]
@[simp] theorem ne_str {i j : Str} : neD (.str i) (.str j) h = .ok (.bl (!decide (i = j))) h := by
  simp [neD, difL, asL, toD, toP, dOk, PyData.plain, PyData.depth, PyData.eqv]
  by_cases e : i = j <;> simp [e]
@[simp] theorem lt_int {i j : Int} : ltD (.int i) (.int j) h = .ok (.bl (decide (i < j))) h := by
  simp [ltD, cmpD, toD, toP, PySem.W.alike, isNone, PyData.depth, PySem.W.dataLt_int]
@[simp] theorem le_int {i j : Int} : leD (.int i) (.int j) h = .ok (.bl (decide (i ≤ j))) h := by
  simp [leD, cmpD, toD, toP, PySem.W.alike, isNone, PyData.depth, PySem.W.dataLt_int]
  by_cases e : j < i
  · have e2 : ¬ i ≤ j := by omega
    simp [e, e2]
  · have e2 : i ≤ j := by omega
    simp [e, e2]
@[simp] theorem gt_int {i j : Int} : gtD (.int i) (.int j) h = .ok (.bl (decide (i > j))) h := by
  simp [gtD, cmpD, toD, toP, PySem.W.alike, isNone, PyData.depth, PySem.W.dataLt_int]
@[simp] theorem ge_int {i j : Int} : geD (.int i) (.int j) h = .ok (.bl (decide (i ≥ j))) h := by
  simp [geD, cmpD, toD, toP, PySem.W.alike, isNone, PyData.depth, PySem.W.dataLt_int]
  by_cases e : i < j
  · have e2 : ¬ j ≤ i := by omega
    simp [e, e2]
  · have e2 : j ≤ i := by omega
    simp [e, e2]
@[simp] theorem add_int {i j : Int} : addD (.int i) (.int j) h = .ok (.int (i + j)) h := id rfl
@[simp] theorem sub_int {i j : Int} : subD (.int i) (.int j) h = .ok (.int (i - j)) h := id rfl
@[simp] theorem iadd_int {i j : Int} : iaddD (.int i) (.int j) h = .ok (.int (i + j)) h := id rfl
theorem mul_int {i j : Int} (e : small64 i = true ∨ small64 j = true) : mulD (.int i) (.int j) h = .ok (.int (i * j)) h := by
  rcases e with e | e <;> simp [mulD, e]
theorem mod_int {i j : Int} (e : 0 < j) : modD (.int i) (.int j) h = .ok (.int (i % j)) h := by simp [modD, e]
theorem fdiv_int {i j : Int} (e : 0 < j) (e2 : j < 1073741824) : fdivD (.int i) (.int j) h = .ok (.int (i / j)) h := by simp [fdivD, e, e2]
@[simp] theorem int_int {i : Int} : biS .int [.int i] h = .ok (.int i) h := id rfl
@[simp] theorem abs_int {i : Int} : biS .abs [.int i] h = .ok (.int (if i < 0 then -i else i)) h := id rfl
end
theorem call_at {T : Tab} {k : Nat} {f : Str} {fd : Fd} {ds : List D} {h : Hh} (e : T f = some fd) (hl : ds.length = fd.np) : callN T (k + 1) f ds h = endB (fd.body (callN T k) (startR fd.nl ds) h) := by
  simp only [callN, e, hl, if_true]
end Ax
namespace Ax
open PySem PySem.Spec PyProof.Rows L2
def bTake (cl : Str → List D → Hh → Res D) : Fs :=
  zSeq (zIf (yV (xBin eqD (xIdx (xV 0) (xC (.int 0))) (xC (.int 0)))) (zSeq (zSet 4 (xC (.int 0)))
    (zSeq (zIf (yV (xBin ltD (xIdx (xV 0) (xC (.int 2))) (xBi .len (xCons (xIdx (xV 0) (xC (.int 3))) (xNil))))) (zSet 4 (xIdx (xIdx (xV 0) (xC (.int 3))) (xIdx (xV 0) (xC (.int 2))))) (zNext))
    (zSeq (zAugIx iaddD (xV 0) (xC (.int 2)) (xC (.int 1)))
    (zSeq (zIf (yV (xBin geD (xV 4) (xC (.int 1000000000000000000)))) (zSetIx (xV 0) (xC (.int 0)) (xV 4)) (zNext))
    (zSeq (zSet 5 (xBin addD (xBin addD (xBin mulD (xIdx (xV 0) (xC (.int 1))) (xC (.int 48271))) (xBin modD (xBi .int (xCons (xV 4) (xNil))) (xC (.int 2147483647)))) (xBin mulD (xC (.int 7919)) (xIdx (xV 0) (xC (.int 2))))))
    (zSetIx (xV 0) (xC (.int 1)) (xBin modD (xBi .int (xCons (xV 5) (xNil))) (xC (.int 2147483647))))))))) (zNext))
    (zSeq (zIf (yV (xBin gtD (xIdx (xV 0) (xC (.int 0))) (xC (.int 0)))) (zSeq (zSet 6 (xBin modD (xBi .int (xCons (xIdx (xV 0) (xC (.int 0))) (xNil))) (xV 1)))
    (zSeq (zSetIx (xV 0) (xC (.int 0)) (xBin fdivD (xIdx (xV 0) (xC (.int 0))) (xV 1)))
    (zRet (xV 6)))) (zNext))
    (zSeq (zSet 2 (xBin modD (xBi .int (xCons (xBin mulD (xBin addD (xIdx (xV 0) (xC (.int 1))) (xC (.int 1))) (xC (.int 39373))) (xNil))) (xC (.int 1000000007))))
    (zSeq (zSet 3 (xBin modD (xBi .int (xCons (xBin mulD (xBin modD (xBi .int (xCons (xBin mulD (xV 2) (xV 2)) (xNil))) (xC (.int 998244353))) (xC (.int 30011))) (xNil))) (xC (.int 998244353))))
    (zSeq (zIf (yV (xBin gtD (xV 1) (xC (.int 1000000)))) (zRet (xBin modD (xBi .int (xCons (xBin addD (xBin mulD (xV 3) (xC (.int 1000000007))) (xV 2)) (xNil))) (xV 1))) (zNext))
    (zRet (xBin modD (xBi .int (xCons (xBin fdivD (xV 3) (xC (.int 7))) (xNil))) (xV 1)))))))

/-- the bag -/
structure Bg (o : O) : Prop where
  ex : ∃ (a b c : Int) (cells : List Int), o = .lst [.int a, .int b, .int c, .lst (cells.map .int)] ∧ 0 ≤ a ∧ 0 ≤ b ∧ b < 2147483647 ∧ 0 ≤ c ∧ ∀ x ∈ cells, 0 ≤ x
def bg (a b c : Int) (l : List D) : O := .lst [.int a, .int b, .int c, .lst l]
section
variable {a b c : Int} {l : List D} {r : Hh} {v : D}
@[simp] theorem bg_i0 : idxD (.ref 0) (.int 0) (bg a b c l :: r) = .ok (.int a) (bg a b c l :: r) := rfl
@[simp] theorem bg_i1 : idxD (.ref 0) (.int 1) (bg a b c l :: r) = .ok (.int b) (bg a b c l :: r) := rfl
@[simp] theorem bg_i2 : idxD (.ref 0) (.int 2) (bg a b c l :: r) = .ok (.int c) (bg a b c l :: r) := rfl
@[simp] theorem bg_i3 : idxD (.ref 0) (.int 3) (bg a b c l :: r) = .ok (.lst l) (bg a b c l :: r) := rfl
@[simp] theorem bg_g2 : lgetD (.ref 0) (.int 2) (bg a b c l :: r) = .ok (.int c) (bg a b c l :: r) := rfl
@[simp] theorem bg_s0 {x : Int} : setAt (.ref 0) (.int 0) (.int x) (bg a b c l :: r) = some (bg x b c l :: r) := rfl
@[simp] theorem bg_s1 {x : Int} : setAt (.ref 0) (.int 1) (.int x) (bg a b c l :: r) = some (bg a x c l :: r) := rfl
@[simp] theorem bg_s2 {x : Int} : setAt (.ref 0) (.int 2) (.int x) (bg a b c l :: r) = some (bg a b x l :: r) := rfl
@[simp] theorem len_lst {h : Hh} : biS .len [.lst l] h = .ok (.int l.length) h := rfl
end
theorem atI_some {α : Type} {xs : List α} {i : Int} (h0 : 0 ≤ i) (h1 : i < xs.length) : ∃ x, x ∈ xs ∧ atI xs i = some x := by
  obtain ⟨n, rfl⟩ := Int.eq_ofNat_of_zero_le h0
  have hn : n < xs.length := by omega
  exact ⟨xs[n], List.getElem_mem hn, atI_nat (j := n) (List.getElem?_eq_getElem hn)⟩
/-- the tail of a drawing -/
theorem take_end {a b c m : Int} {l : List D} {r : Hh} {o2 o3 o4 o5 o6 : Option D} (ha : 0 ≤ a) (hb : 0 ≤ b) (hb2 : b < 2147483647) (hm : 0 < m) (hm2 : m < 1073741824) :
    ∃ v a', zSeq (zIf (yV (xBin gtD (xIdx (xV 0) (xC (.int 0))) (xC (.int 0)))) (zSeq (zSet 6 (xBin modD (xBi .int (xCons (xIdx (xV 0) (xC (.int 0))) (xNil))) (xV 1)))
    (zSeq (zSetIx (xV 0) (xC (.int 0)) (xBin fdivD (xIdx (xV 0) (xC (.int 0))) (xV 1)))
    (zRet (xV 6)))) (zNext))
    (zSeq (zSet 2 (xBin modD (xBi .int (xCons (xBin mulD (xBin addD (xIdx (xV 0) (xC (.int 1))) (xC (.int 1))) (xC (.int 39373))) (xNil))) (xC (.int 1000000007))))
    (zSeq (zSet 3 (xBin modD (xBi .int (xCons (xBin mulD (xBin modD (xBi .int (xCons (xBin mulD (xV 2) (xV 2)) (xNil))) (xC (.int 998244353))) (xC (.int 30011))) (xNil))) (xC (.int 998244353))))
    (zSeq (zIf (yV (xBin gtD (xV 1) (xC (.int 1000000)))) (zRet (xBin modD (xBi .int (xCons (xBin addD (xBin mulD (xV 3) (xC (.int 1000000007))) (xV 2)) (xNil))) (xV 1))) (zNext))
    (zRet (xBin modD (xBi .int (xCons (xBin fdivD (xV 3) (xC (.int 7))) (xNil))) (xV 1))))))
    [some (.ref 0), some (.int m), o2, o3, o4, o5, o6] (bg a b c l :: r) = .rt (.int v) (bg a' b c l :: r) ∧ 0 ≤ a' ∧ 0 ≤ v ∧ v < m := by
  by_cases h : a > 0
  · refine ⟨a % m, a / m, ?_, Int.ediv_nonneg ha (by omega), Int.emod_nonneg _ (by omega), Int.emod_lt_of_pos _ hm⟩
    rw [zSeq_at]
    simp [h, zSeq_at, mod_int hm, fdiv_int hm hm2]
  · have h2 : ¬ 0 < a := h
    have k1 : (0 : Int) < 1000000007 := by decide
    have k2 : (0 : Int) < 998244353 := by decide
    have k3 : small64 39373 = true := by decide
    have k4 : small64 30011 = true := by decide
    have k6 : small64 1000000007 = true := by decide
    have q1 := Int.emod_nonneg ((b + 1) * 39373) (show (1000000007 : Int) ≠ 0 by decide)
    have q2 := Int.emod_lt_of_pos ((b + 1) * 39373) k1
    have k5 : small64 ((b + 1) * 39373 % 1000000007) = true := by
      simp only [small64, Bool.and_eq_true, decide_eq_true_eq]
      omega
    by_cases h3 : m > 1000000
    · refine ⟨((b + 1) * 39373 % 1000000007 * ((b + 1) * 39373 % 1000000007) % 998244353 * 30011 % 998244353 * 1000000007 + (b + 1) * 39373 % 1000000007) % m, a, ?_, ha, Int.emod_nonneg _ (by omega), Int.emod_lt_of_pos _ hm⟩
      · rw [zSeq_at]
        simp only [zIf_at, yV_at, xBin_at, xIdx_at, xV_at, xC_at, bind_ok, of_ok, List.getElem?_cons_zero, bg_i0, gt_int, isB_at, decide_eq_false h, Bool.false_eq_true, if_false, zNext_at]
        simp [zSeq_at, h2, mod_int hm, mod_int k1, mod_int k2, mul_int (.inr k3), mul_int (.inr k4), mul_int (.inl k5), mul_int (.inr k6), h3]
    · refine ⟨((b + 1) * 39373 % 1000000007 * ((b + 1) * 39373 % 1000000007) % 998244353 * 30011 % 998244353 / 7) % m, a, ?_, ha, Int.emod_nonneg _ (by omega), Int.emod_lt_of_pos _ hm⟩
      · rw [zSeq_at]
        simp only [zIf_at, yV_at, xBin_at, xIdx_at, xV_at, xC_at, bind_ok, of_ok, List.getElem?_cons_zero, bg_i0, gt_int, isB_at, decide_eq_false h, Bool.false_eq_true, if_false, zNext_at]
        simp [zSeq_at, h2, mod_int hm, mod_int k1, mod_int k2, mul_int (.inr k3), mul_int (.inr k4), mul_int (.inl k5), fdiv_int (show (0:Int) < 7 by decide) (by decide), h3]
theorem take_go {cl : Str → List D → Hh → Res D} {a b c m : Int} {cells : List Int} {r : Hh} (ha : 0 ≤ a) (hb : 0 ≤ b) (hb2 : b < 2147483647) (hc : 0 ≤ c) (hcs : ∀ x ∈ cells, 0 ≤ x) (hm : 0 < m) (hm2 : m < 1073741824) :
    ∃ v a' b' c', bTake cl [some (.ref 0), some (.int m), none, none, none, none, none] (bg a b c (cells.map .int) :: r) = .rt (.int v) (bg a' b' c' (cells.map .int) :: r) ∧ 0 ≤ a' ∧ 0 ≤ b' ∧ b' < 2147483647 ∧ 0 ≤ c' ∧ 0 ≤ v ∧ v < m := by
  by_cases h : a = 0
  · subst h
    have k1 : (0 : Int) < 2147483647 := by decide
    have k2 : small64 48271 = true := by decide
    have k3 : small64 7919 = true := by decide
    have fin : ∀ x : Int, 0 ≤ x → ∃ v a' b' c', bTake cl [some (.ref 0), some (.int m), none, none, none, none, none] (bg 0 b c (cells.map .int) :: r) = .rt (.int v) (bg a' b' c' (cells.map .int) :: r) ∧ 0 ≤ a' ∧ 0 ≤ b' ∧ b' < 2147483647 ∧ 0 ≤ c' ∧ 0 ≤ v ∧ v < m := by
      intro _ _
      by_cases h1 : c < cells.length
      · obtain ⟨y, hy, e⟩ := atI_some (xs := cells) hc h1
        have e2 : idxD (.lst (cells.map .int)) (.int c) (bg 0 b c (cells.map .int) :: r) = .ok (.int y) (bg 0 b c (cells.map .int) :: r) := by
          have e3 : atI (cells.map D.int) c = some (.int y) := by
            obtain ⟨n, rfl⟩ := Int.eq_ofNat_of_zero_le hc
            have hn : n < cells.length := by omega
            rw [atI_nat (List.getElem?_eq_getElem hn)] at e
            refine atI_nat ?_
            rw [List.getElem?_map, List.getElem?_eq_getElem hn, Option.some.inj e]
            rfl
          simp only [idxD, asS, asL, e3]
        have hy0 := hcs y hy
        by_cases h2 : y ≥ 1000000000000000000
        · obtain ⟨v, a', e4, r1, r2, r3⟩ := take_end (a := y) (b := (b * 48271 + y % 2147483647 + 7919 * (c + 1)) % 2147483647) (c := c + 1) (l := cells.map .int) (r := r) (o2 := none) (o3 := none) (o4 := some (.int y)) (o5 := some (.int (b * 48271 + y % 2147483647 + 7919 * (c + 1)))) (o6 := none) hy0 (Int.emod_nonneg _ (by decide)) (Int.emod_lt_of_pos _ k1) hm hm2
          refine ⟨v, a', (b * 48271 + y % 2147483647 + 7919 * (c + 1)) % 2147483647, c + 1, ?_, r1, Int.emod_nonneg _ (by decide), Int.emod_lt_of_pos _ k1, by omega, r2, r3⟩
          refine Eq.trans (seq_nx ?_) e4
          simp [zSeq_at, h1, h2, e2, mod_int k1, mul_int (.inr k2), mul_int (.inl k3)]
        · obtain ⟨v, a', e4, r1, r2, r3⟩ := take_end (a := 0) (b := (b * 48271 + y % 2147483647 + 7919 * (c + 1)) % 2147483647) (c := c + 1) (l := cells.map .int) (r := r) (o2 := none) (o3 := none) (o4 := some (.int y)) (o5 := some (.int (b * 48271 + y % 2147483647 + 7919 * (c + 1)))) (o6 := none) (Int.le_refl 0) (Int.emod_nonneg _ (by decide)) (Int.emod_lt_of_pos _ k1) hm hm2
          refine ⟨v, a', (b * 48271 + y % 2147483647 + 7919 * (c + 1)) % 2147483647, c + 1, ?_, r1, Int.emod_nonneg _ (by decide), Int.emod_lt_of_pos _ k1, by omega, r2, r3⟩
          refine Eq.trans (seq_nx ?_) e4
          simp [zSeq_at, h1, h2, e2, mod_int k1, mul_int (.inr k2), mul_int (.inl k3)]
      · obtain ⟨v, a', e4, r1, r2, r3⟩ := take_end (a := 0) (b := (b * 48271 + 0 % 2147483647 + 7919 * (c + 1)) % 2147483647) (c := c + 1) (l := cells.map .int) (r := r) (o2 := none) (o3 := none) (o4 := some (.int 0)) (o5 := some (.int (b * 48271 + 0 % 2147483647 + 7919 * (c + 1)))) (o6 := none) (Int.le_refl 0) (Int.emod_nonneg _ (by decide)) (Int.emod_lt_of_pos _ k1) hm hm2
        refine ⟨v, a', (b * 48271 + 0 % 2147483647 + 7919 * (c + 1)) % 2147483647, c + 1, ?_, r1, Int.emod_nonneg _ (by decide), Int.emod_lt_of_pos _ k1, by omega, r2, r3⟩
        refine Eq.trans (seq_nx ?_) e4
        simp [zSeq_at, h1, mod_int k1, mul_int (.inr k2), mul_int (.inl k3)]
    exact fin 0 (by omega)
  · obtain ⟨v, a', e, r1, r2, r3⟩ := take_end (a := a) (b := b) (c := c) (l := cells.map .int) (r := r) (o2 := none) (o3 := none) (o4 := none) (o5 := none) (o6 := none) ha hb hb2 hm hm2
    refine ⟨v, a', b, c, ?_, r1, hb, hb2, hc, r2, r3⟩
    refine Eq.trans (seq_nx ?_) e
    simp [h]
/-- a drawing, by its call -/
theorem take_call {T : Tab} (hT : T "_law_take" = some ⟨2, 7, bTake⟩) {k : Nat} {o : O} {r : Hh} {m : Int} (B : Bg o) (hm : 0 < m) (hm2 : m < 1073741824) :
    ∃ v o', callN T (k + 1) "_law_take" [.ref 0, .int m] (o :: r) = .ok (.int v) (o' :: r) ∧ Bg o' ∧ 0 ≤ v ∧ v < m := by
  obtain ⟨a, b, c, cells, rfl, h1, h2, h3, h4, h5⟩ := B.ex
  obtain ⟨v, a', b', c', e, r1, r2, r3, r4, r5, r6⟩ := take_go (cl := callN T k) (r := r) h1 h2 h3 h4 h5 hm hm2
  refine ⟨v, bg a' b' c' (cells.map .int), ?_, ⟨a', b', c', cells, rfl, r1, r2, r3, r4, h5⟩, r5, r6⟩
  rw [call_at hT rfl]
  exact congrArg endB e
end Ax
namespace Ax
open PySem PySem.Spec PyProof.Rows L2
section
variable {h : Hh} {ds es : List D} {a b c d : D} {x : Str}
theorem atI0 {α : Type} {a : α} {l : List α} : atI (a :: l) 0 = some a := atI_nat (j := 0) rfl
theorem atI1 {α : Type} {a b : α} {l : List α} : atI (a :: b :: l) 1 = some b := atI_nat (j := 1) rfl
theorem atI2 {α : Type} {a b c : α} {l : List α} : atI (a :: b :: c :: l) 2 = some c := atI_nat (j := 2) rfl
@[simp] theorem idx_t0 : idxD (.tup (a :: ds)) (.int 0) h = .ok a h := by simp only [idxD, asS, atI0]
@[simp] theorem idx_t1 : idxD (.tup (a :: b :: ds)) (.int 1) h = .ok b h := by simp only [idxD, asS, atI1]
@[simp] theorem idx_t2 : idxD (.tup (a :: b :: c :: ds)) (.int 2) h = .ok c h := by simp only [idxD, asS, atI2]
@[simp] theorem idx_l0 : idxD (.lst (a :: ds)) (.int 0) h = .ok a h := by simp only [idxD, asS, asL, atI0]
@[simp] theorem idx_l1 : idxD (.lst (a :: b :: ds)) (.int 1) h = .ok b h := by simp only [idxD, asS, asL, atI1]
@[simp] theorem len_tup : biS .len [.tup ds] h = .ok (.int ds.length) h := id rfl
theorem len_str (e : x.length ≤ sizeLine) : biS .len [.str x] h = .ok (.int x.length) h := by
  simp [biS, bLen, sz, e]
@[simp] theorem slc_t1 : slcD (.tup (a :: ds)) (some 1) none h = .ok (.tup ds) h := by
  have e1 : HT.sIx (a :: ds).length 0 (some 1) = 1 := by
    rw [show HT.sIx (a :: ds).length 0 (some 1) = min 1 (a :: ds).length from HT.sIx_nat _ 0 1, List.length_cons]
    omega
  simp only [slcD, e1, HT.sIx_none]
  simp only [List.length_cons, Nat.add_sub_cancel, List.drop_succ_cons, List.drop_zero, List.take_length]
@[simp] theorem list_tup : biS .list [.tup ds] h = .ok (.lst ds) h := id rfl
@[simp] theorem int_bl {k : Bool} : biS .int [.bl k] h = .ok (.int (if k then 1 else 0)) h := id rfl
@[simp] theorem items_lst : itemsD (.lst ds) h = .ok ds h := id rfl
@[simp] theorem items_tup : itemsD (.tup ds) h = .ok ds h := id rfl
@[simp] theorem items_str : itemsD (.str x) h = .ok (x.cps.toList.map fun c => .str ⟨#[c]⟩) h := id rfl
@[simp] theorem iV_at {f : Fn} {ρ : Rho} : iV f ρ h = (f ρ h).bind fun d h1 => itemsD d h1 := id rfl
@[simp] theorem iR1_at {f : Fl} {ρ : Rho} : iR1 f ρ h = (f ρ h).bind fun ds h1 => rng1D ds h1 := id rfl
theorem rng_at {j : Int} (h1 : -(2 ^ 62) ≤ j) (h2 : j < 2 ^ 62) : rng1D [.int j] h = .ok ((List.range j.toNat).map fun (k : Nat) => .int (0 + (k : Int))) h := by
  simp only [rng1D, h1, h2, decide_true, Bool.and_self, if_true]
@[simp] theorem all_at {bs : List Bool} : biS .all [.lst (bs.map .bl)] h = .ok (.bl (bs.all id)) h := by simp [biS, bBls, asL]
@[simp] theorem any_at {bs : List Bool} : biS .any [.lst (bs.map .bl)] h = .ok (.bl (bs.any id)) h := by simp [biS, bBls, asL]
@[simp] theorem eq_nil : eqD (.lst ds) (.lst []) h = .ok (.bl ds.isEmpty) h := by
  cases ds with
  | nil => rfl
  | cons a r => simp [eqD, difL, asL]
@[simp] theorem ne_nil : neD (.lst ds) (.lst []) h = .ok (.bl (!ds.isEmpty)) h := by
  cases ds with
  | nil => rfl
  | cons a r => simp [neD, difL, asL]
end
section
variable {h : Hh} {k : Bool} {i : Int} {x : Str} {ds : List D} {kds : List (Key × D)}
@[simp] theorem isi_non_int : biS .isi [.non, .val (.ty "int")] h = .ok (.bl false) h := by simp only [biS, bIsi, tyN, show kitB "NoneType" "int" = some false by decide +kernel]
@[simp] theorem isi_non_bool : biS .isi [.non, .val (.ty "bool")] h = .ok (.bl false) h := by simp only [biS, bIsi, tyN, show kitB "NoneType" "bool" = some false by decide +kernel]
@[simp] theorem isi_non_str : biS .isi [.non, .val (.ty "str")] h = .ok (.bl false) h := by simp only [biS, bIsi, tyN, show kitB "NoneType" "str" = some false by decide +kernel]
@[simp] theorem isi_non_tuple : biS .isi [.non, .val (.ty "tuple")] h = .ok (.bl false) h := by simp only [biS, bIsi, tyN, show kitB "NoneType" "tuple" = some false by decide +kernel]
@[simp] theorem isi_non_list : biS .isi [.non, .val (.ty "list")] h = .ok (.bl false) h := by simp only [biS, bIsi, tyN, show kitB "NoneType" "list" = some false by decide +kernel]
@[simp] theorem isi_non_dict : biS .isi [.non, .val (.ty "dict")] h = .ok (.bl false) h := by simp only [biS, bIsi, tyN, show kitB "NoneType" "dict" = some false by decide +kernel]
@[simp] theorem isi_bl_int : biS .isi [(.bl k), .val (.ty "int")] h = .ok (.bl true) h := by simp only [biS, bIsi, tyN, show kitB "bool" "int" = some true by decide +kernel]
@[simp] theorem isi_bl_bool : biS .isi [(.bl k), .val (.ty "bool")] h = .ok (.bl true) h := by simp only [biS, bIsi, tyN, show kitB "bool" "bool" = some true by decide +kernel]
@[simp] theorem isi_bl_str : biS .isi [(.bl k), .val (.ty "str")] h = .ok (.bl false) h := by simp only [biS, bIsi, tyN, show kitB "bool" "str" = some false by decide +kernel]
@[simp] theorem isi_bl_tuple : biS .isi [(.bl k), .val (.ty "tuple")] h = .ok (.bl false) h := by simp only [biS, bIsi, tyN, show kitB "bool" "tuple" = some false by decide +kernel]
@[simp] theorem isi_bl_list : biS .isi [(.bl k), .val (.ty "list")] h = .ok (.bl false) h := by simp only [biS, bIsi, tyN, show kitB "bool" "list" = some false by decide +kernel]
@[simp] theorem isi_bl_dict : biS .isi [(.bl k), .val (.ty "dict")] h = .ok (.bl false) h := by simp only [biS, bIsi, tyN, show kitB "bool" "dict" = some false by decide +kernel]
@[simp] theorem isi_int_int : biS .isi [(.int i), .val (.ty "int")] h = .ok (.bl true) h := by simp only [biS, bIsi, tyN, show kitB "int" "int" = some true by decide +kernel]
@[simp] theorem isi_int_bool : biS .isi [(.int i), .val (.ty "bool")] h = .ok (.bl false) h := by simp only [biS, bIsi, tyN, show kitB "int" "bool" = some false by decide +kernel]
@[simp] theorem isi_int_str : biS .isi [(.int i), .val (.ty "str")] h = .ok (.bl false) h := by simp only [biS, bIsi, tyN, show kitB "int" "str" = some false by decide +kernel]
@[simp] theorem isi_int_tuple : biS .isi [(.int i), .val (.ty "tuple")] h = .ok (.bl false) h := by simp only [biS, bIsi, tyN, show kitB "int" "tuple" = some false by decide +kernel]
@[simp] theorem isi_int_list : biS .isi [(.int i), .val (.ty "list")] h = .ok (.bl false) h := by simp only [biS, bIsi, tyN, show kitB "int" "list" = some false by decide +kernel]
@[simp] theorem isi_int_dict : biS .isi [(.int i), .val (.ty "dict")] h = .ok (.bl false) h := by simp only [biS, bIsi, tyN, show kitB "int" "dict" = some false by decide +kernel]
@[simp] theorem isi_str_int : biS .isi [(.str x), .val (.ty "int")] h = .ok (.bl false) h := by simp only [biS, bIsi, tyN, show kitB "str" "int" = some false by decide +kernel]
@[simp] theorem isi_str_bool : biS .isi [(.str x), .val (.ty "bool")] h = .ok (.bl false) h := by simp only [biS, bIsi, tyN, show kitB "str" "bool" = some false by decide +kernel]
@[simp] theorem isi_str_str : biS .isi [(.str x), .val (.ty "str")] h = .ok (.bl true) h := by simp only [biS, bIsi, tyN, show kitB "str" "str" = some true by decide +kernel]
@[simp] theorem isi_str_tuple : biS .isi [(.str x), .val (.ty "tuple")] h = .ok (.bl false) h := by simp only [biS, bIsi, tyN, show kitB "str" "tuple" = some false by decide +kernel]
@[simp] theorem isi_str_list : biS .isi [(.str x), .val (.ty "list")] h = .ok (.bl false) h := by simp only [biS, bIsi, tyN, show kitB "str" "list" = some false by decide +kernel]
@[simp] theorem isi_str_dict : biS .isi [(.str x), .val (.ty "dict")] h = .ok (.bl false) h := by simp only [biS, bIsi, tyN, show kitB "str" "dict" = some false by decide +kernel]
@[simp] theorem isi_tup_int : biS .isi [(.tup ds), .val (.ty "int")] h = .ok (.bl false) h := by simp only [biS, bIsi, tyN, show kitB "tuple" "int" = some false by decide +kernel]
@[simp] theorem isi_tup_bool : biS .isi [(.tup ds), .val (.ty "bool")] h = .ok (.bl false) h := by simp only [biS, bIsi, tyN, show kitB "tuple" "bool" = some false by decide +kernel]
@[simp] theorem isi_tup_str : biS .isi [(.tup ds), .val (.ty "str")] h = .ok (.bl false) h := by simp only [biS, bIsi, tyN, show kitB "tuple" "str" = some false by decide +kernel]
@[simp] theorem isi_tup_tuple : biS .isi [(.tup ds), .val (.ty "tuple")] h = .ok (.bl true) h := by simp only [biS, bIsi, tyN, show kitB "tuple" "tuple" = some true by decide +kernel]
@[simp] theorem isi_tup_list : biS .isi [(.tup ds), .val (.ty "list")] h = .ok (.bl false) h := by simp only [biS, bIsi, tyN, show kitB "tuple" "list" = some false by decide +kernel]
@[simp] theorem isi_tup_dict : biS .isi [(.tup ds), .val (.ty "dict")] h = .ok (.bl false) h := by simp only [biS, bIsi, tyN, show kitB "tuple" "dict" = some false by decide +kernel]
@[simp] theorem isi_lst_int : biS .isi [(.lst ds), .val (.ty "int")] h = .ok (.bl false) h := by simp only [biS, bIsi, tyN, show kitB "list" "int" = some false by decide +kernel]
@[simp] theorem isi_lst_bool : biS .isi [(.lst ds), .val (.ty "bool")] h = .ok (.bl false) h := by simp only [biS, bIsi, tyN, show kitB "list" "bool" = some false by decide +kernel]
@[simp] theorem isi_lst_str : biS .isi [(.lst ds), .val (.ty "str")] h = .ok (.bl false) h := by simp only [biS, bIsi, tyN, show kitB "list" "str" = some false by decide +kernel]
@[simp] theorem isi_lst_tuple : biS .isi [(.lst ds), .val (.ty "tuple")] h = .ok (.bl false) h := by simp only [biS, bIsi, tyN, show kitB "list" "tuple" = some false by decide +kernel]
@[simp] theorem isi_lst_list : biS .isi [(.lst ds), .val (.ty "list")] h = .ok (.bl true) h := by simp only [biS, bIsi, tyN, show kitB "list" "list" = some true by decide +kernel]
@[simp] theorem isi_lst_dict : biS .isi [(.lst ds), .val (.ty "dict")] h = .ok (.bl false) h := by simp only [biS, bIsi, tyN, show kitB "list" "dict" = some false by decide +kernel]
@[simp] theorem isi_dct_int : biS .isi [(.dct kds), .val (.ty "int")] h = .ok (.bl false) h := by simp only [biS, bIsi, tyN, show kitB "dict" "int" = some false by decide +kernel]
@[simp] theorem isi_dct_bool : biS .isi [(.dct kds), .val (.ty "bool")] h = .ok (.bl false) h := by simp only [biS, bIsi, tyN, show kitB "dict" "bool" = some false by decide +kernel]
@[simp] theorem isi_dct_str : biS .isi [(.dct kds), .val (.ty "str")] h = .ok (.bl false) h := by simp only [biS, bIsi, tyN, show kitB "dict" "str" = some false by decide +kernel]
@[simp] theorem isi_dct_tuple : biS .isi [(.dct kds), .val (.ty "tuple")] h = .ok (.bl false) h := by simp only [biS, bIsi, tyN, show kitB "dict" "tuple" = some false by decide +kernel]
@[simp] theorem isi_dct_list : biS .isi [(.dct kds), .val (.ty "list")] h = .ok (.bl false) h := by simp only [biS, bIsi, tyN, show kitB "dict" "list" = some false by decide +kernel]
@[simp] theorem isi_dct_dict : biS .isi [(.dct kds), .val (.ty "dict")] h = .ok (.bl true) h := by simp only [biS, bIsi, tyN, show kitB "dict" "dict" = some true by decide +kernel]
end
section
variable {ρ : Rho} {h : Hh} {ds : List D} {i : Nat} {c : Ft} {e : Fn}
@[simp] theorem lc_at {f : List D → Hh → Res D} {it : Fl} {own : List Nat} {t : Fg} : xLcG f it own t c e ρ h = ((it ρ h).bind fun ds h1 => if sz ds.length then noX (lcL t c e (wipeR ρ own) ds h1) else .bad).bind f := id rfl
@[simp] theorem wipe1 : wipeR ρ [i] = ρ.set i none := id rfl
@[simp] theorem noX_ok {α : Type} {x : α} : noX (.ok x h) = .ok x h := id rfl
@[simp] theorem lcF_at : lcF ds h = .ok (.lst ds) h := id rfl
theorem lc_map {α : Type} {xs : List α} {g : α → D} {f : α → D} (he : ∀ x ∈ xs, e (ρ.set i (some (g x))) h = .ok (f x) h) : lcL (gN i) yYes e ρ (xs.map g) h = .ok (xs.map f) h := by
  induction xs with
  | nil => rfl
  | cons a r ih =>
    simp only [List.map_cons, lcL, gN_at, yYes_at, bind_ok, if_true]
    rw [he a (List.mem_cons_self ..)]
    simp only [bind_ok]
    rw [ih fun x hx => he x (List.mem_cons_of_mem _ hx)]
    rfl
theorem lc_mapD {f : D → D} (he : ∀ x ∈ ds, e (ρ.set i (some x)) h = .ok (f x) h) : lcL (gN i) yYes e ρ ds h = .ok (ds.map f) h := by
  have z := lc_map (g := id) (i := i) (ρ := ρ) (h := h) (e := e) (f := f) (xs := ds) he
  rwa [List.map_id] at z
theorem lc_filter {p : D → Bool} (hc : ∀ x ∈ ds, c (ρ.set i (some x)) h = .ok (p x) h) (he : ∀ x ∈ ds, e (ρ.set i (some x)) h = .ok x h) : lcL (gN i) c e ρ ds h = .ok (ds.filter p) h := by
  induction ds with
  | nil => rfl
  | cons a r ih =>
    simp only [lcL, gN_at]
    rw [hc a (List.mem_cons_self ..)]
    simp only [bind_ok]
    have ih' := ih (fun x hx => hc x (List.mem_cons_of_mem _ hx)) (fun x hx => he x (List.mem_cons_of_mem _ hx))
    by_cases q : p a = true
    · rw [if_pos q, he a (List.mem_cons_self ..)]
      simp only [bind_ok]
      rw [ih']
      simp only [bind_ok, List.filter_cons_of_pos q]
    · rw [if_neg q, ih', List.filter_cons_of_neg q]
theorem lc_inv {I : Hh → Prop} {P : D → Prop} (he : ∀ x ∈ ds, ∀ h, I h → ∃ y h', e (ρ.set i (some x)) h = .ok y h' ∧ I h' ∧ P y) (h0 : I h) : ∃ ys h', lcL (gN i) yYes e ρ ds h = .ok ys h' ∧ I h' ∧ ys.length = ds.length ∧ ∀ y ∈ ys, P y := by
  induction ds generalizing h with
  | nil => exact ⟨[], h, rfl, h0, rfl, fun y hy => by cases hy⟩
  | cons a r ih =>
    obtain ⟨y, h', e1, i1, p1⟩ := he a (List.mem_cons_self ..) h h0
    obtain ⟨ys, h2, e2, i2, l2, p2⟩ := ih (fun x hx => he x (List.mem_cons_of_mem _ hx)) i1
    refine ⟨y :: ys, h2, ?_, i2, by simp [l2], fun z hz => ?_⟩
    · simp only [lcL, gN_at, yYes_at, bind_ok, if_true, e1, e2]
    · rcases List.mem_cons.mp hz with rfl | hz
      · exact p1
      · exact p2 z hz
/-- a loop that never leaves early -/
theorem loop_inv {t : Fg} {b : Fs} {I : Rho → Hh → Prop} (hb : ∀ d ∈ ds, ∀ ρ h, I ρ h → ∃ ρ1 ρ2 h2, t d ρ = some ρ1 ∧ b ρ1 h = .nx ρ2 h2 ∧ I ρ2 h2) (h0 : I ρ h) : ∃ ρ' h', loopS t b ds ρ h = .nx ρ' h' ∧ I ρ' h' := by
  induction ds generalizing ρ h with
  | nil => exact ⟨ρ, h, rfl, h0⟩
  | cons a r ih =>
    obtain ⟨ρ1, ρ2, h2, e1, e2, i2⟩ := hb a (List.mem_cons_self ..) ρ h h0
    obtain ⟨ρ', h', e3, i3⟩ := ih (fun x hx => hb x (List.mem_cons_of_mem _ hx)) i2
    exact ⟨ρ', h', by simp only [loopS, e1, e2, e3], i3⟩
end
/-- a text's signs within another's -/
theorem in_sign {h : Hh} {c : Nat} {z : Str} : inD (.str ⟨#[c]⟩) (.str z) h = .ok (.bl (decide (c ∈ z.cps.toList))) h := rfl
theorem nin_sign {h : Hh} {c : Nat} {z : Str} : ninD (.str ⟨#[c]⟩) (.str z) h = .ok (.bl (!decide (c ∈ z.cps.toList))) h := rfl
end Ax
namespace Ax
open PySem PySem.Spec PyProof.Rows L2
def bBag (cl : Str → List D → Hh → Res D) : Fs :=
  zRet (xNlst (xCons (xC (.int 0)) (xCons (xC (.int 1234567891)) (xCons (xC (.int 0)) (xCons (xLcG lcF (iV (xSlc (xV 0) (xNo) (xSome (xC (.int 63))))) [1] (gN 1) (yYes) (xBi .abs (xCons (xV 1) (xNil)))) (xNil))))))
def bOne (cl : Str → List D → Hh → Res D) : Fs :=
  zRet (xIdx (xV 1) (xCall 2 (cl "_law_take") (xCons (xV 0) (xCons (xBi .len (xCons (xV 1) (xNil))) (xNil)))))
def bNames (cl : Str → List D → Hh → Res D) : Fs :=
  zSeq (zSet 2 (xStr1 splitD (xC (.str "list pair fun same then a ab abc row both as names zzzzzzzz book word z")) (xC (.str " "))))
    (zSeq (zAsg (gT2 5 6) (xTup (xCons (xCall 2 (cl "_law_take") (xCons (xV 0) (xCons (xC (.int 4)) (xNil)))) (xCons (xCall 2 (cl "_law_take") (xCons (xV 0) (xCons (xC (.int 16)) (xNil)))) (xNil)))))
    (zSeq (zIf (yV (xBin eqD (xV 5) (xC (.int 0)))) (zRet (xBi .sorted (xCons (xSlc (xBin addD (xSlc (xV 2) (xSome (xV 6)) (xNo)) (xSlc (xV 2) (xNo) (xSome (xV 6)))) (xNo) (xSome (xV 1))) (xNil)))) (zNext))
    (zSeq (zIf (yV (xBin eqD (xV 5) (xC (.int 1)))) (zRet (xBi .sorted (xCons (xLcG lcF (iR1 (xCons (xV 1) (xNil))) [7] (gN 7) (yYes) (xSlc (xC (.str "aaaaaaaa")) (xNo) (xSome (xBin addD (xV 7) (xC (.int 1)))))) (xNil)))) (zNext))
    (zSeq (zSet 3 (xC (.str "abcdefghijklmnopqrstuvwxyz")))
    (zSeq (zSet 4 (xStr1 joinD (xC (.str "")) (xLcG lcF (iR1 (xCons (xBin subD (xV 5) (xC (.int 1))) (xNil))) [7] (gN 7) (yYes) (xIdx (xV 3) (xCall 2 (cl "_law_take") (xCons (xV 0) (xCons (xC (.int 26)) (xNil))))))))
    (zRet (xBi .sorted (xCons (xLcG lcF (iR1 (xCons (xV 1) (xNil))) [7] (gN 7) (yYes) (xBin addD (xV 4) (xIdx (xV 3) (xBin modD (xBi .int (xCons (xBin addD (xV 6) (xBin mulD (xC (.int 3)) (xV 7))) (xNil))) (xC (.int 26)))))) (xNil)))))))))

/-- small texts -/
structure SS (n : Nat) (x : Str) : Prop where
  le : x.length ≤ n
  sm : ∀ c ∈ x.cps.toList, c < 256
theorem SS.mono {n m : Nat} {x : Str} (s : SS n x) (h : n ≤ m) : SS m x := ⟨Nat.le_trans s.le h, s.sm⟩
def ssB (n : Nat) (x : Str) : Bool := decide (x.length ≤ n) && x.cps.toList.all fun c => decide (c < 256)
theorem ss_of {n : Nat} {x : Str} (h : ssB n x = true) : SS n x := by
  simp only [ssB, Bool.and_eq_true, decide_eq_true_eq, List.all_eq_true] at h
  exact ⟨h.1, h.2⟩
theorem sz_of {n : Nat} (e : n ≤ 1000) : sz n = true := by
  simp only [sz, decide_eq_true_eq]
  exact Nat.le_trans e (by decide)
theorem str_len {x : Str} : x.length = x.cps.toList.length := by
  rw [Array.length_toList]
  rfl
theorem ss_cut {n : Nat} {x : Str} {lo hi : Option Int} (s : SS n x) : SS n (cutS x lo hi) := by
  refine ⟨?_, fun c hc => ?_⟩
  · rw [str_len]
    simp only [cutS, List.length_take, List.length_drop]
    have := s.le
    rw [str_len] at this
    omega
  · simp only [cutS] at hc
    exact s.sm c (List.mem_of_mem_drop (List.mem_of_mem_take hc))
theorem app_list (x y : Str) : (x ++ y).cps.toList = x.cps.toList ++ y.cps.toList := by
  show (x.cps ++ y.cps).toList = _
  rw [Array.toList_append]
theorem ss_app {n m : Nat} {x y : Str} (s : SS n x) (t : SS m y) : SS (n + m) (x ++ y) := by
  refine ⟨?_, fun c hc => ?_⟩
  · rw [str_len, app_list, List.length_append]
    have := s.le
    have := t.le
    rw [str_len] at *
    omega
  · rw [app_list] at hc
    rcases List.mem_append.mp hc with h | h
    · exact s.sm c h
    · exact t.sm c h
section
variable {T : Tab} {j : Nat} {o : O} {r : Hh}
theorem bag_call (hT : T "_law_bag" = some ⟨1, 2, bBag⟩) {ns : List Int} (hl : ns.length ≤ 1000) : ∃ o, callN T (j + 1) "_law_bag" [.scr ns] [] = .ok (.ref 0) [o] ∧ Bg o := by
  generalize hx : (ns.drop (HT.sIx ns.length 0 none)).take (HT.sIx ns.length ns.length (some 63) - HT.sIx ns.length 0 none) = xs
  have hz : sz xs.length = true := sz_of (by
    rw [← hx, List.length_take, List.length_drop]
    omega)
  have hs : slcD (.scr ns) none (some 63) [] = .ok (.lst (xs.map .int)) [] := by
    simp only [slcD, hx]
  have hc : lcL (gN 1) yYes (xBi .abs (xCons (xV 1) (xNil))) [some (D.scr ns), none] (xs.map .int) [] = .ok (xs.map fun i => D.int (if i < 0 then -i else i)) [] := lc_map fun i _ => by simp
  refine ⟨bg 0 1234567891 0 ((xs.map fun i => if i < 0 then -i else i).map .int), ?_, ⟨0, 1234567891, 0, xs.map fun i => if i < 0 then -i else i, rfl, by decide, by decide, by decide, by decide, fun x hx => ?_⟩⟩
  · rw [call_at hT rfl]
    simp [bBag, startR, hs, hz, hc]
    have h4 : sz 4 = true := by decide
    simp [h4, bg]
  · obtain ⟨i, _, rfl⟩ := List.mem_map.mp hx
    split <;> omega
theorem atI_mem {α : Type} {xs : List α} {i : Int} (h0 : 0 ≤ i) (h1 : i < xs.length) : ∃ x, x ∈ xs ∧ atI xs i = some x := by
  obtain ⟨n, rfl⟩ := Int.eq_ofNat_of_zero_le h0
  have hn : n < xs.length := by omega
  exact ⟨xs[n], List.getElem_mem hn, atI_nat (List.getElem?_eq_getElem hn)⟩
theorem idx_lst {h : Hh} {xs : List D} {i : Int} (h0 : 0 ≤ i) (h1 : i < xs.length) : ∃ x, x ∈ xs ∧ idxD (.lst xs) (.int i) h = .ok x h := by
  obtain ⟨x, hx, e⟩ := atI_mem h0 h1
  exact ⟨x, hx, by simp only [idxD, asS, asL, e]⟩
theorem idx_tup {h : Hh} {xs : List D} {i : Int} (h0 : 0 ≤ i) (h1 : i < xs.length) : ∃ x, x ∈ xs ∧ idxD (.tup xs) (.int i) h = .ok x h := by
  obtain ⟨x, hx, e⟩ := atI_mem h0 h1
  exact ⟨x, hx, by simp only [idxD, asS, e]⟩
theorem idx_str {h : Hh} {z : Str} {i : Int} (hz : z.length ≤ 1000) (h0 : 0 ≤ i) (h1 : i < z.length) : ∃ c, c ∈ z.cps.toList ∧ idxD (.str z) (.int i) h = .ok (.str ⟨#[c]⟩) h := by
  rw [str_len] at h1
  obtain ⟨x, hx, e⟩ := atI_mem h0 h1
  exact ⟨x, hx, by simp only [idxD, e, sz_of hz, if_true]⟩
theorem one_lst (hT : T "_law_take" = some ⟨2, 7, bTake⟩) (h1 : T "_law_one" = some ⟨2, 2, bOne⟩) (B : Bg o) {xs : List D} (hx : 0 < xs.length) (hx2 : xs.length ≤ 1000) :
    ∃ x o', callN T (j + 2) "_law_one" [.ref 0, .lst xs] (o :: r) = .ok x (o' :: r) ∧ x ∈ xs ∧ Bg o' := by
  obtain ⟨v, o', e, B', v0, v1⟩ := take_call hT (k := j) (r := r) B (m := xs.length) (by omega) (by omega)
  obtain ⟨x, hm, e2⟩ := idx_lst (h := o' :: r) v0 v1
  refine ⟨x, o', ?_, hm, B'⟩
  rw [call_at h1 rfl]
  simp [bOne, startR, e, e2]
theorem one_str (hT : T "_law_take" = some ⟨2, 7, bTake⟩) (h1 : T "_law_one" = some ⟨2, 2, bOne⟩) (B : Bg o) {z : Str} (hx : 0 < z.length) (hx2 : z.length ≤ 1000) :
    ∃ c o', callN T (j + 2) "_law_one" [.ref 0, .str z] (o :: r) = .ok (.str ⟨#[c]⟩) (o' :: r) ∧ c ∈ z.cps.toList ∧ Bg o' := by
  obtain ⟨v, o', e, B', v0, v1⟩ := take_call hT (k := j) (r := r) B (m := z.length) (by omega) (by omega)
  obtain ⟨x, hm, e2⟩ := idx_str (h := o' :: r) hx2 v0 v1
  refine ⟨x, o', ?_, hm, B'⟩
  rw [call_at h1 rfl]
  have hz : z.length ≤ sizeLine := Nat.le_trans hx2 (by decide)
  simp [bOne, startR, len_str hz, e, e2]
end
theorem slc_lo {h : Hh} {ds : List D} {t : Nat} : slcD (.lst ds) (some (t : Int)) none h = .ok (.lst (ds.drop t)) h := by
  simp only [slcD, asL, HT.sIx_nat, HT.sIx_none]
  congr 2
  rw [List.take_of_length_le (by rw [List.length_drop]; exact Nat.le_refl _)]
  by_cases e : t ≤ ds.length
  · rw [Nat.min_eq_left e]
  · rw [Nat.min_eq_right (by omega), List.drop_length, List.drop_eq_nil_of_le (by omega)]
theorem slc_hi {h : Hh} {ds : List D} {t : Nat} : slcD (.lst ds) none (some (t : Int)) h = .ok (.lst (ds.take t)) h := by
  simp only [slcD, asL, HT.sIx_nat, HT.sIx_none, List.drop_zero, Nat.sub_zero]
  congr 2
  by_cases e : t ≤ ds.length
  · rw [Nat.min_eq_left e]
  · rw [Nat.min_eq_right (by omega), List.take_length, List.take_of_length_le (by omega)]
theorem slct_lo {h : Hh} {ds : List D} {t : Nat} : slcD (.tup ds) (some (t : Int)) none h = .ok (.tup (ds.drop t)) h := by
  simp only [slcD, HT.sIx_nat, HT.sIx_none]
  congr 2
  rw [List.take_of_length_le (by rw [List.length_drop]; exact Nat.le_refl _)]
  by_cases e : t ≤ ds.length
  · rw [Nat.min_eq_left e]
  · rw [Nat.min_eq_right (by omega), List.drop_length, List.drop_eq_nil_of_le (by omega)]
theorem slct_hi {h : Hh} {ds : List D} {t : Nat} : slcD (.tup ds) none (some (t : Int)) h = .ok (.tup (ds.take t)) h := by
  simp only [slcD, HT.sIx_nat, HT.sIx_none, List.drop_zero, Nat.sub_zero]
  congr 2
  by_cases e : t ≤ ds.length
  · rw [Nat.min_eq_left e]
  · rw [Nat.min_eq_right (by omega), List.take_length, List.take_of_length_le (by omega)]
theorem slc_str {h : Hh} {z : Str} {lo hi : Option Int} (hz : z.length ≤ 1000) : slcD (.str z) lo hi h = .ok (.str (cutS z lo hi)) h := by simp [slcD, sz_of hz]
theorem toDs_strs {h : Hh} : ∀ ys : List Str, toDs h (ys.map .str) = some (ys.map .str)
  | [] => rfl
  | y :: ys => by
    have := toDs_strs (h := h) ys
    simp only [toDs] at this
    simp only [toDs, List.map_cons, toPs, toP, this]
theorem sorted_strs {h : Hh} (ys : List Str) : ∃ zs : List Str, biS .sorted [.lst (ys.map .str)] h = .ok (.lst (zs.map .str)) h ∧ zs.Perm ys := by
  have h1 : alikes (ys.map PyData.str) = true := by simp [alikes, PySem.W.alike]
  have h2 : sortable (ys.map PyData.str) = true := by simp [sortable]
  have h3 : ((ys.map PyData.str).all fun p => decide (p.depth ≤ 150)) = true := by simp [PyData.depth]
  have ez : (ys.map D.str).zip (ys.map PyData.str) = ys.map fun y => (D.str y, PyData.str y) := by
    induction ys with
    | nil => rfl
    | cons y ys ih =>
      simp only [List.map_cons, List.zip_cons_cons, List.cons.injEq, true_and]
      exact ih (by simp [alikes, PySem.W.alike]) (by simp [sortable]) (by simp [PyData.depth])
  have pm : (sortD (ys.map fun y => (D.str y, PyData.str y))).Perm (ys.map fun y => (D.str y, PyData.str y)) := List.mergeSort_perm _ _
  have pm2 := pm.map (·.1)
  rw [List.map_map] at pm2
  have es : sortedL h (ys.map .str) = some ((sortD (ys.map fun y => (D.str y, PyData.str y))).map (·.1)) := by
    simp only [sortedL, toDs_strs, h1, h2, h3, Bool.and_self, if_true, ez]
  obtain ⟨zs, ez1⟩ : ∃ zs : List Str, (sortD (ys.map fun y => (D.str y, PyData.str y))).map (·.1) = zs.map .str := by
    have : ∀ d ∈ (sortD (ys.map fun y => (D.str y, PyData.str y))).map (·.1), ∃ y, d = D.str y := fun d hd => by
      have := pm2.mem_iff.mp hd
      obtain ⟨y, _, rfl⟩ := List.mem_map.mp this
      exact ⟨y, rfl⟩
    generalize (sortD (ys.map fun y => (D.str y, PyData.str y))).map (·.1) = l at this
    induction l with
    | nil => exact ⟨[], rfl⟩
    | cons d l ih =>
      obtain ⟨y, rfl⟩ := this d (List.mem_cons_self ..)
      obtain ⟨zs, e⟩ := ih fun d hd => this d (List.mem_cons_of_mem _ hd)
      exact ⟨y :: zs, by simp [e]⟩
  refine ⟨zs, ?_, ?_⟩
  · simp only [biS, bSrt, asL, es, ez1]
  · rw [ez1] at pm2
    have := pm2.filterMap fun d => match d with | D.str y => some y | _ => none
    simpa [List.filterMap_map, Function.comp_def] using this
abbrev menuS : Str := "list pair fun same then a ab abc row both as names zzzzzzzz book word z"
def menu : List Str := ["list", "pair", "fun", "same", "then", "a", "ab", "abc", "row", "both", "as", "names", "zzzzzzzz", "book", "word", "z"]
theorem split_menu : Txt.split menuS " " = menu := by decide +kernel
abbrev abc : Str := "abcdefghijklmnopqrstuvwxyz"
@[simp] theorem xStr1_at {f : Str → D → Hh → Res D} {a b : Fn} {ρ : Rho} {h : Hh} : xStr1 f a b ρ h = (a ρ h).bind fun x h1 => match x with | .str s => (b ρ h1).bind fun y h2 => f s y h2 | _ => .bad := id rfl
theorem menu_split {h : Hh} : splitD menuS (.str " ") h = .ok (.lst (menu.map .str)) h := by
  simp only [splitD, split_menu]
  rfl
@[simp] theorem zAsg_at {t : Fg} {a : Fn} {ρ : Rho} {h : Hh} : zAsg t a ρ h = SRes.of (a ρ h) fun d h1 => match t d ρ with | some ρ1 => .nx ρ1 h1 | none => .bad := id rfl
@[simp] theorem gT2_at {i j : Nat} {a b : D} {ρ : Rho} : gT2 i j (.tup [a, b]) ρ = some ((ρ.set i (some a)).set j (some b)) := id rfl
theorem join_strs {h : Hh} {s : Str} {ys : List Str} (hy : (ys.map (·.length)).sum + ys.length * s.length ≤ 1000) : joinD s (.lst (ys.map .str)) h = .ok (.str (Txt.join s ys)) h := by
  have : (ys.map (·.length)).sum + ys.length * s.length ≤ 16777216 := Nat.le_trans hy (by decide)
  simp [joinD, asS, asL, this]
theorem lc_rng {fs : Fl} {c : Ft} {e : Fn} {ρ : Rho} {h h1 h2 : Hh} {ys : List D} {i m : Nat} (hf : fs ρ h = .ok [.int (m : Int)] h1) (hm : m ≤ 1000) (hl : lcL (gN i) c e (ρ.set i none) ((List.range m).map fun (k : Nat) => .int (k : Int)) h1 = .ok ys h2) : xLcG lcF (iR1 fs) [i] (gN i) c e ρ h = .ok (.lst ys) h2 := by
  have rg : rng1D [.int (m : Int)] h1 = .ok ((List.range m).map fun (k : Nat) => .int (k : Int)) h1 := by
    have z := rng_at (h := h1) (j := (m : Int)) (by omega) (by omega)
    simpa using z
  have hz : sz ((List.range m).map fun (k : Nat) => D.int (k : Int)).length = true := sz_of (by rw [List.length_map, List.length_range]; exact hm)
  rw [lc_at, iR1_at, hf, bind_ok, rg, bind_ok, if_pos hz, wipe1, hl, noX_ok, bind_ok, lcF_at]
theorem names_call {T : Tab} (hT : T "_law_take" = some ⟨2, 7, bTake⟩) (hN : T "_law_names" = some ⟨2, 8, bNames⟩) {j : Nat} {o : O} {r : Hh} (B : Bg o) {m : Nat} (hm : m ≤ 8) :
    ∃ (xs : List Str) (o' : O), callN T (j + 2) "_law_names" [.ref 0, .int m] (o :: r) = .ok (.lst (xs.map .str)) (o' :: r) ∧ xs.length = m ∧ (∀ x ∈ xs, SS 8 x) ∧ Bg o' := by
  obtain ⟨v, o1, e1, B1, v0, v1⟩ := take_call hT (k := j) (r := r) B (m := 4) (by decide) (by decide)
  obtain ⟨t, o2, e2, B2, t0, t1⟩ := take_call hT (k := j) (r := r) B1 (m := 16) (by decide) (by decide)
  rw [call_at hN rfl]
  have h2 : sz 2 = true := by decide
  have hml : ∀ y ∈ menu, SS 8 y := fun y hy => ss_of (by
    have : (menu.all fun y => ssB 8 y) = true := by decide +kernel
    exact List.all_eq_true.mp this y hy)
  obtain ⟨tn, rfl⟩ := Int.eq_ofNat_of_zero_le t0
  have head : ∀ zb : Fs, zSeq (zSet 2 (xStr1 splitD (xC (.str "list pair fun same then a ab abc row both as names zzzzzzzz book word z")) (xC (.str " "))))
      (zSeq (zAsg (gT2 5 6) (xTup (xCons (xCall 2 (callN T (j + 1) "_law_take") (xCons (xV 0) (xCons (xC (.int 4)) (xNil)))) (xCons (xCall 2 (callN T (j + 1) "_law_take") (xCons (xV 0) (xCons (xC (.int 16)) (xNil)))) (xNil))))) zb)
      (startR 8 [.ref 0, .int m]) (o :: r) = zb [some (.ref 0), some (.int m), some (.lst (menu.map .str)), none, none, some (.int v), some (.int tn), none] (o2 :: r) := fun zb => by
    rw [seq_nx (ρ1 := [some (.ref 0), some (.int m), some (.lst (menu.map .str)), none, none, none, none, none]) (h1 := o :: r) (by simp [menu_split, startR]), seq_nx]
    simp [e1, e2, h2]
  by_cases c0 : v = 0
  · subst c0
    have hm16 : menu.length = 16 := rfl
    have hadd : addD (.lst ((menu.map D.str).drop tn)) (.lst ((menu.map D.str).take tn)) (o2 :: r) = .ok (.lst ((menu.drop tn ++ menu.take tn).map .str)) (o2 :: r) := by
      have : sz (((menu.map D.str).drop tn).length + ((menu.map D.str).take tn).length) = true := sz_of (by
        simp only [List.length_drop, List.length_take, List.length_map, hm16]
        omega)
      simp only [addD, asL, this, if_true, List.map_append, List.map_drop, List.map_take]
    obtain ⟨zs, ez, pz⟩ := sorted_strs (h := o2 :: r) ((menu.drop tn ++ menu.take tn).take m)
    refine ⟨zs, o2, ?_, ?_, fun x hx => ?_, B2⟩
    · simp [bNames, startR, zSeq_at, menu_split, e1, e2, h2, slc_lo, slc_hi]
      rw [hadd]
      simp only [bind_ok, slc_hi, ← List.map_take, ez, of_ok, endB_rt]
    · rw [pz.length_eq]
      simp only [List.length_take, List.length_append, List.length_drop, hm16]
      omega
    · have := List.mem_of_mem_take (pz.mem_iff.mp hx)
      rcases List.mem_append.mp this with h | h
      · exact hml x (List.mem_of_mem_drop h)
      · exact hml x (List.mem_of_mem_take h)
  by_cases c1 : v = 1
  · subst c1
    have hc : lcL (gN 7) yYes (xSlc (xC (.str "aaaaaaaa")) (xNo) (xSome (xBin addD (xV 7) (xC (.int 1))))) [some (.ref 0), some (.int m), some (.lst (menu.map .str)), none, none, some (.int 1), some (.int tn), none] ((List.range m).map fun (k : Nat) => .int (0 + (k : Int))) (o2 :: r) = .ok ((List.range m).map fun (k : Nat) => D.str (cutS "aaaaaaaa" none (some (0 + (k : Int) + 1)))) (o2 :: r) := lc_map fun k _ => by
      simp [slc_str (show ("aaaaaaaa" : Str).length ≤ 1000 by decide)]
    obtain ⟨zs, ez, pz⟩ := sorted_strs (h := o2 :: r) ((List.range m).map fun (k : Nat) => cutS "aaaaaaaa" none (some (0 + (k : Int) + 1)))
    refine ⟨zs, o2, ?_, ?_, fun x hx => ?_, B2⟩
    · rw [List.map_map] at ez
      simp only [Function.comp_def] at ez
      simp only [Int.zero_add] at hc ez
      simp only [bNames, head]
      rw [seq_nx (ρ1 := [some (.ref 0), some (.int m), some (.lst (menu.map .str)), none, none, some (.int 1), some (.int tn), none]) (h1 := o2 :: r) (by simp [-lc_at]), seq_rt]
      · rfl
      simp only [zIf_at, yV_at, xBin_at, xV_at, xC_at, List.getElem?_cons_succ, List.getElem?_cons_zero, bind_ok, eq_int, decide_true, isB_at, of_ok, if_true, zRet_at, xBi_at, xCons_at, xNil_at]
      rw [lc_rng (by simp) (by omega) hc]
      simp only [bind_ok, ez, of_ok]
    · rw [pz.length_eq, List.length_map, List.length_range]
    · obtain ⟨k, _, rfl⟩ := List.mem_map.mp (pz.mem_iff.mp hx)
      exact ss_cut (ss_of (by decide +kernel))
  · have c1' : ¬ v = 0 := c0
    have habc : abc.length = 26 := by decide +kernel
    have sabc : SS 26 abc := ss_of (by decide +kernel)
    obtain ⟨ys, h', ec, ⟨o3, eh, B3⟩, ly, py⟩ := lc_inv (i := 7) (e := xIdx (xV 3) (xCall 2 (callN T (j + 1) "_law_take") (xCons (xV 0) (xCons (xC (.int 26)) (xNil))))) (ρ := [some (.ref 0), some (.int m), some (.lst (menu.map .str)), some (.str "abcdefghijklmnopqrstuvwxyz"), none, some (.int v), some (.int tn), none]) (ds := (List.range (v.toNat - 1)).map fun (k : Nat) => .int (0 + (k : Int))) (h := o2 :: r)
      (I := fun h => ∃ o, h = o :: r ∧ Bg o) (P := fun d => ∃ c, d = D.str ⟨#[c]⟩ ∧ c < 256) (fun d _ h ⟨o, eo, Bo⟩ => by
        subst eo
        obtain ⟨u, o4, e4, B4, u0, u1⟩ := take_call hT (k := j) (r := r) Bo (m := 26) (by decide) (by decide)
        obtain ⟨c, hc, e5⟩ := idx_str (h := o4 :: r) (z := abc) (i := u) (by rw [habc]; decide) u0 (by rw [habc]; exact u1)
        exact ⟨.str ⟨#[c]⟩, o4 :: r, by simp [e4, e5], ⟨o4, rfl, B4⟩, c, rfl, sabc.sm c hc⟩) ⟨o2, rfl, B2⟩
    subst eh
    obtain ⟨xs, ex⟩ : ∃ xs : List Str, ys = xs.map .str := by
      have : ∀ d ∈ ys, ∃ y, d = D.str y := fun d hd => let ⟨c, e, _⟩ := py d hd; ⟨_, e⟩
      clear ec ly py
      induction ys with
      | nil => exact ⟨[], rfl⟩
      | cons d l ih =>
        obtain ⟨y, rfl⟩ := this d (List.mem_cons_self ..)
        obtain ⟨zs, e⟩ := ih fun d hd => this d (List.mem_cons_of_mem _ hd)
        exact ⟨y :: zs, by simp [e]⟩
    subst ex
    have hxs : ∀ x ∈ xs, SS 1 x := fun x hx => by
      obtain ⟨c, e, hc⟩ := py (.str x) (List.mem_map.mpr ⟨x, hx, rfl⟩)
      cases e
      refine ⟨Nat.le_refl 1, fun c' hc' => ?_⟩
      have : c' = c := by simpa using hc'
      rw [this]
      exact hc
    have hlx : xs.length ≤ 2 := by
      rw [List.length_map] at ly
      rw [ly, List.length_map, List.length_range]
      omega
    have hz0 : ("" : Str).length = 0 := rfl
    have hjoin : ∃ st, (∀ h, joinD "" (.lst (xs.map .str)) h = .ok (.str st) h) ∧ SS 2 st := by
      match xs, hlx, hxs with
      | [], _, _ => exact ⟨Txt.join "" [], fun h => join_strs (ys := []) (by decide), ss_of (by decide +kernel)⟩
      | [a], _, hx =>
        have ha := hx a (by simp)
        have e : Txt.join "" [a] = a := rfl
        refine ⟨a, fun h => ?_, ha.mono (by decide)⟩
        rw [join_strs (by have := ha.le; simp [hz0]; omega), e]
      | [a, b], _, hx =>
        have ha := hx a (by simp)
        have hb := hx b (by simp)
        refine ⟨Txt.join "" [a, b], fun h => join_strs (by have := ha.le; have := hb.le; simp [hz0]; omega), ?_⟩
        have e : Txt.join "" [a, b] = a ++ "" ++ b := rfl
        rw [e]
        exact ss_app (n := 1 + 0) (ss_app ha (ss_of (n := 0) (by decide +kernel))) hb
    obtain ⟨st, ej, ss⟩ := hjoin
    have hidx : ∀ (k : Nat) (h : Hh), ∃ c, c < 256 ∧ idxD (.str abc) (.int (((tn : Int) + 3 * (k : Int)) % 26)) h = .ok (.str ⟨#[c]⟩) h := fun k h => by
      obtain ⟨c, hc, e⟩ := idx_str (h := h) (z := abc) (i := ((tn : Int) + 3 * (k : Int)) % 26) (by rw [habc]; decide) (by omega) (by rw [habc]; omega)
      exact ⟨c, sabc.sm c hc, e⟩
    obtain ⟨ys2, h5, ec2, eh5, ly2, py2⟩ := lc_inv (i := 7) (e := xBin addD (xV 4) (xIdx (xV 3) (xBin modD (xBi .int (xCons (xBin addD (xV 6) (xBin mulD (xC (.int 3)) (xV 7))) (xNil))) (xC (.int 26))))) (ρ := [some (.ref 0), some (.int m), some (.lst (menu.map .str)), some (.str "abcdefghijklmnopqrstuvwxyz"), some (.str st), some (.int v), some (.int tn), none]) (ds := (List.range m).map fun (k : Nat) => .int (0 + (k : Int))) (h := o3 :: r)
      (I := fun h => h = o3 :: r) (P := fun d => ∃ x, d = D.str x ∧ SS 3 x) (fun d hd h eo => by
        subst eo
        obtain ⟨k, _, rfl⟩ := List.mem_map.mp hd
        obtain ⟨c, hc, e⟩ := hidx k (o3 :: r)
        have s1 : SS 1 ⟨#[c]⟩ := ⟨Nat.le_refl 1, fun c' hc' => by
          have : c' = c := by simpa using hc'
          rw [this]
          exact hc⟩
        have hz : sz (st.length + (⟨#[c]⟩ : Str).length) = true := sz_of (by have := ss.le; have := s1.le; omega)
        have k3 : small64 3 = true := by decide
        refine ⟨.str (st ++ ⟨#[c]⟩), _, ?_, rfl, _, rfl, ss_app ss s1⟩
        simp [mul_int (.inl k3), mod_int (show (0 : Int) < 26 by decide), e, addD, hz]) rfl
    subst eh5
    obtain ⟨xs2, ex2⟩ : ∃ xs : List Str, ys2 = xs.map .str := by
      have : ∀ d ∈ ys2, ∃ y, d = D.str y := fun d hd => let ⟨c, e, _⟩ := py2 d hd; ⟨_, e⟩
      clear ec2 ly2 py2
      induction ys2 with
      | nil => exact ⟨[], rfl⟩
      | cons d l ih =>
        obtain ⟨y, rfl⟩ := this d (List.mem_cons_self ..)
        obtain ⟨zs, e⟩ := ih fun d hd => this d (List.mem_cons_of_mem _ hd)
        exact ⟨y :: zs, by simp [e]⟩
    subst ex2
    obtain ⟨zs, ez, pz⟩ := sorted_strs (h := o3 :: r) xs2
    refine ⟨zs, o3, ?_, ?_, fun x hx => ?_, B3⟩
    · simp only [Int.zero_add] at ec ec2
      simp only [bNames, head]
      rw [seq_nx (ρ1 := [some (.ref 0), some (.int m), some (.lst (menu.map .str)), none, none, some (.int v), some (.int tn), none]) (h1 := o2 :: r) (by simp [-lc_at, c0]),
        seq_nx (ρ1 := [some (.ref 0), some (.int m), some (.lst (menu.map .str)), none, none, some (.int v), some (.int tn), none]) (h1 := o2 :: r) (by simp [-lc_at, c1]),
        seq_nx (ρ1 := [some (.ref 0), some (.int m), some (.lst (menu.map .str)), some (.str "abcdefghijklmnopqrstuvwxyz"), none, some (.int v), some (.int tn), none]) (h1 := o2 :: r) (by simp),
        seq_nx (ρ1 := [some (.ref 0), some (.int m), some (.lst (menu.map .str)), some (.str "abcdefghijklmnopqrstuvwxyz"), some (.str st), some (.int v), some (.int tn), none]) (h1 := o3 :: r)]
      · simp only [zRet_at, xBi_at, xCons_at, xNil_at]
        rw [lc_rng (by simp) (by omega) ec2]
        simp only [bind_ok, ez, of_ok, endB_rt]
      · simp only [zSet_at, xStr1_at, xC_at, bind_ok]
        rw [lc_rng (m := v.toNat - 1) (by simp; omega) (by omega) ec]
        simp only [bind_ok, ej, of_ok, List.set_cons_succ, List.set_cons_zero]
    · rw [pz.length_eq]
      simpa using ly2
    · obtain ⟨x', e, s⟩ := py2 (.str x) (List.mem_map.mpr ⟨x, pz.mem_iff.mp hx, rfl⟩)
      cases e
      exact s.mono (by decide)
end Ax
namespace K11
open PySem PySem.Spec PyProof.Rows L2 Ax
def w_WIDTHS : List (Str × D) := [("list", .int 1), ("pair", .int 2), ("fun", .int 2)]
def b_is_integer (cl : Str → List D → Hh → Res D) : Fs :=
  zRet (xAnd (xBi .isi (xCons (xV 0) (xCons (xC (.val (.ty "int"))) (xNil)))) (xNot (xBi .isi (xCons (xV 0) (xCons (xC (.val (.ty "bool"))) (xNil))))))
def fd_is_integer : Fd := ⟨1, 1, b_is_integer⟩
def b_is_name (cl : Str → List D → Hh → Res D) : Fs :=
  zRet (xAnd (xBi .isi (xCons (xV 0) (xCons (xC (.val (.ty "str"))) (xNil)))) (xAnd (xChain leD leD (xC (.int 1)) (xBi .len (xCons (xV 0) (xNil))) (xC (.int 8))) (xBi .all (xCons (xLcG lcF (iV (xV 0)) [1] (gN 1) (yYes) (xBin inD (xV 1) (xC (.str "abcdefghijklmnopqrstuvwxyz")))) (xNil)))))
def fd_is_name : Fd := ⟨1, 2, b_is_name⟩
def b_is_word (cl : Str → List D → Hh → Res D) : Fs :=
  zRet (xAnd (xBi .isi (xCons (xV 0) (xCons (xC (.val (.ty "str"))) (xNil)))) (xInW w_WIDTHS (xV 0)))
def fd_is_word : Fd := ⟨1, 1, b_is_word⟩
def b_is_kind (cl : Str → List D → Hh → Res D) : Fs :=
  zSeq (zIf (yV (xBi .isi (xCons (xV 0) (xCons (xC (.val (.ty "str"))) (xNil))))) (zRet (xCall 1 (cl "is_name") (xCons (xV 0) (xNil)))) (zNext))
    (zSeq (zIf (yOr (yNot (yV (xBi .isi (xCons (xV 0) (xCons (xC (.val (.ty "tuple"))) (xNil)))))) (yOr (yV (xBin ltD (xBi .len (xCons (xV 0) (xNil))) (xC (.int 2)))) (yOr (yNot (yV (xCall 1 (cl "is_word") (xCons (xIdx (xV 0) (xC (.int 0))) (xNil))))) (yV (xBin neD (xBi .len (xCons (xV 0) (xNil))) (xBin addD (xIdxW w_WIDTHS (xIdx (xV 0) (xC (.int 0)))) (xC (.int 1)))))))) (zRet (xC (.bl false))) (zNext))
    (zRet (xBi .all (xCons (xLcG lcF (iV (xSlc (xV 0) (xSome (xC (.int 1))) (xNo))) [1] (gN 1) (yYes) (xCall 1 (cl "is_kind") (xCons (xV 1) (xNil)))) (xNil)))))
def fd_is_kind : Fd := ⟨1, 2, b_is_kind⟩
def b_parts (cl : Str → List D → Hh → Res D) : Fs :=
  zRet (xIfe (yV (xBi .isi (xCons (xV 0) (xCons (xC (.val (.ty "tuple"))) (xNil))))) (xBi .list (xCons (xSlc (xV 0) (xSome (xC (.int 1))) (xNo)) (xNil))) (xLst (xNil)))
def fd_parts : Fd := ⟨1, 1, b_parts⟩
def b_has_functions (cl : Str → List D → Hh → Res D) : Fs :=
  zRet (xAnd (xBi .isi (xCons (xV 0) (xCons (xC (.val (.ty "tuple"))) (xNil)))) (xOr (xBin eqD (xIdx (xV 0) (xC (.int 0))) (xC (.str "fun"))) (xBi .any (xCons (xLcG lcF (iV (xCall 1 (cl "parts") (xCons (xV 0) (xNil)))) [1] (gN 1) (yYes) (xCall 1 (cl "has_functions") (xCons (xV 1) (xNil)))) (xNil)))))
def fd_has_functions : Fd := ⟨1, 2, b_has_functions⟩
def b_is_plain (cl : Str → List D → Hh → Res D) : Fs :=
  zRet (xAnd (xCall 1 (cl "is_kind") (xCons (xV 0) (xNil))) (xNot (xCall 1 (cl "has_functions") (xCons (xV 0) (xNil)))))
def fd_is_plain : Fd := ⟨1, 1, b_is_plain⟩
def b_is_form (cl : Str → List D → Hh → Res D) : Fs :=
  zSeq (zIf (yOr (yNot (yV (xBi .isi (xCons (xV 0) (xCons (xC (.val (.ty "tuple"))) (xNil)))))) (yOr (yV (xBin ltD (xBi .len (xCons (xV 0) (xNil))) (xC (.int 2)))) (yNot (yV (xBi .isi (xCons (xIdx (xV 0) (xC (.int 0))) (xCons (xC (.val (.ty "str"))) (xNil)))))))) (zRet (xC (.bl false))) (zNext))
    (zSeq (zIf (yV (xBin eqD (xIdx (xV 0) (xC (.int 0))) (xC (.str "same")))) (zRet (xAnd (xBin eqD (xBi .len (xCons (xV 0) (xNil))) (xC (.int 2))) (xCall 1 (cl "is_kind") (xCons (xIdx (xV 0) (xC (.int 1))) (xNil))))) (zNext))
    (zSeq (zIf (yV (xBin eqD (xIdx (xV 0) (xC (.int 0))) (xC (.str "then")))) (zRet (xAnd (xBin eqD (xBi .len (xCons (xV 0) (xNil))) (xC (.int 3))) (xAnd (xCall 1 (cl "is_form") (xCons (xIdx (xV 0) (xC (.int 1))) (xNil))) (xCall 1 (cl "is_name") (xCons (xIdx (xV 0) (xC (.int 2))) (xNil)))))) (zNext))
    (zSeq (zIf (yOr (yNot (yV (xCall 1 (cl "is_word") (xCons (xIdx (xV 0) (xC (.int 0))) (xNil))))) (yV (xBin neD (xBi .len (xCons (xV 0) (xNil))) (xBin addD (xIdxW w_WIDTHS (xIdx (xV 0) (xC (.int 0)))) (xC (.int 1)))))) (zRet (xC (.bl false))) (zNext))
    (zRet (xAnd (xBi .all (xCons (xLcG lcF (iV (xSlc (xV 0) (xSome (xC (.int 1))) (xNo))) [1] (gN 1) (yYes) (xCall 1 (cl "is_form") (xCons (xV 1) (xNil)))) (xNil))) (xBi .any (xCons (xLcG lcF (iV (xSlc (xV 0) (xSome (xC (.int 1))) (xNo))) [1] (gN 1) (yYes) (xBin neD (xIdx (xV 1) (xC (.int 0))) (xC (.str "same")))) (xNil))))))))
def fd_is_form : Fd := ⟨1, 2, b_is_form⟩
def b__law_bag (cl : Str → List D → Hh → Res D) : Fs :=
  zRet (xNlst (xCons (xC (.int 0)) (xCons (xC (.int 1234567891)) (xCons (xC (.int 0)) (xCons (xLcG lcF (iV (xSlc (xV 0) (xNo) (xSome (xC (.int 63))))) [1] (gN 1) (yYes) (xBi .abs (xCons (xV 1) (xNil)))) (xNil))))))
def fd__law_bag : Fd := ⟨1, 2, b__law_bag⟩
def b__law_take (cl : Str → List D → Hh → Res D) : Fs :=
  zSeq (zIf (yV (xBin eqD (xIdx (xV 0) (xC (.int 0))) (xC (.int 0)))) (zSeq (zSet 4 (xC (.int 0)))
    (zSeq (zIf (yV (xBin ltD (xIdx (xV 0) (xC (.int 2))) (xBi .len (xCons (xIdx (xV 0) (xC (.int 3))) (xNil))))) (zSet 4 (xIdx (xIdx (xV 0) (xC (.int 3))) (xIdx (xV 0) (xC (.int 2))))) (zNext))
    (zSeq (zAugIx iaddD (xV 0) (xC (.int 2)) (xC (.int 1)))
    (zSeq (zIf (yV (xBin geD (xV 4) (xC (.int 1000000000000000000)))) (zSetIx (xV 0) (xC (.int 0)) (xV 4)) (zNext))
    (zSeq (zSet 5 (xBin addD (xBin addD (xBin mulD (xIdx (xV 0) (xC (.int 1))) (xC (.int 48271))) (xBin modD (xBi .int (xCons (xV 4) (xNil))) (xC (.int 2147483647)))) (xBin mulD (xC (.int 7919)) (xIdx (xV 0) (xC (.int 2))))))
    (zSetIx (xV 0) (xC (.int 1)) (xBin modD (xBi .int (xCons (xV 5) (xNil))) (xC (.int 2147483647))))))))) (zNext))
    (zSeq (zIf (yV (xBin gtD (xIdx (xV 0) (xC (.int 0))) (xC (.int 0)))) (zSeq (zSet 6 (xBin modD (xBi .int (xCons (xIdx (xV 0) (xC (.int 0))) (xNil))) (xV 1)))
    (zSeq (zSetIx (xV 0) (xC (.int 0)) (xBin fdivD (xIdx (xV 0) (xC (.int 0))) (xV 1)))
    (zRet (xV 6)))) (zNext))
    (zSeq (zSet 2 (xBin modD (xBi .int (xCons (xBin mulD (xBin addD (xIdx (xV 0) (xC (.int 1))) (xC (.int 1))) (xC (.int 39373))) (xNil))) (xC (.int 1000000007))))
    (zSeq (zSet 3 (xBin modD (xBi .int (xCons (xBin mulD (xBin modD (xBi .int (xCons (xBin mulD (xV 2) (xV 2)) (xNil))) (xC (.int 998244353))) (xC (.int 30011))) (xNil))) (xC (.int 998244353))))
    (zSeq (zIf (yV (xBin gtD (xV 1) (xC (.int 1000000)))) (zRet (xBin modD (xBi .int (xCons (xBin addD (xBin mulD (xV 3) (xC (.int 1000000007))) (xV 2)) (xNil))) (xV 1))) (zNext))
    (zRet (xBin modD (xBi .int (xCons (xBin fdivD (xV 3) (xC (.int 7))) (xNil))) (xV 1)))))))
def fd__law_take : Fd := ⟨2, 7, b__law_take⟩
def b__law_alike (cl : Str → List D → Hh → Res D) : Fs :=
  zRet (xAnd (xBin eqD (xV 0) (xV 1)) (xBin eqD (xBi .repr (xCons (xV 0) (xNil))) (xBi .repr (xCons (xV 1) (xNil)))))
def fd__law_alike : Fd := ⟨2, 2, b__law_alike⟩
def b__law_one (cl : Str → List D → Hh → Res D) : Fs :=
  zRet (xIdx (xV 1) (xCall 2 (cl "_law_take") (xCons (xV 0) (xCons (xBi .len (xCons (xV 1) (xNil))) (xNil)))))
def fd__law_one : Fd := ⟨2, 2, b__law_one⟩
def b__law_names (cl : Str → List D → Hh → Res D) : Fs :=
  zSeq (zSet 2 (xStr1 splitD (xC (.str "list pair fun same then a ab abc row both as names zzzzzzzz book word z")) (xC (.str " "))))
    (zSeq (zAsg (gT2 5 6) (xTup (xCons (xCall 2 (cl "_law_take") (xCons (xV 0) (xCons (xC (.int 4)) (xNil)))) (xCons (xCall 2 (cl "_law_take") (xCons (xV 0) (xCons (xC (.int 16)) (xNil)))) (xNil)))))
    (zSeq (zIf (yV (xBin eqD (xV 5) (xC (.int 0)))) (zRet (xBi .sorted (xCons (xSlc (xBin addD (xSlc (xV 2) (xSome (xV 6)) (xNo)) (xSlc (xV 2) (xNo) (xSome (xV 6)))) (xNo) (xSome (xV 1))) (xNil)))) (zNext))
    (zSeq (zIf (yV (xBin eqD (xV 5) (xC (.int 1)))) (zRet (xBi .sorted (xCons (xLcG lcF (iR1 (xCons (xV 1) (xNil))) [7] (gN 7) (yYes) (xSlc (xC (.str "aaaaaaaa")) (xNo) (xSome (xBin addD (xV 7) (xC (.int 1)))))) (xNil)))) (zNext))
    (zSeq (zSet 3 (xC (.str "abcdefghijklmnopqrstuvwxyz")))
    (zSeq (zSet 4 (xStr1 joinD (xC (.str "")) (xLcG lcF (iR1 (xCons (xBin subD (xV 5) (xC (.int 1))) (xNil))) [7] (gN 7) (yYes) (xIdx (xV 3) (xCall 2 (cl "_law_take") (xCons (xV 0) (xCons (xC (.int 26)) (xNil))))))))
    (zRet (xBi .sorted (xCons (xLcG lcF (iR1 (xCons (xV 1) (xNil))) [7] (gN 7) (yYes) (xBin addD (xV 4) (xIdx (xV 3) (xBin modD (xBi .int (xCons (xBin addD (xV 6) (xBin mulD (xC (.int 3)) (xV 7))) (xNil))) (xC (.int 26)))))) (xNil)))))))))
def fd__law_names : Fd := ⟨2, 8, b__law_names⟩
def b__law_any_kind (cl : Str → List D → Hh → Res D) : Fs :=
  zSeq (zSet 3 (xCall 2 (cl "_law_take") (xCons (xV 0) (xCons (xC (.int 5)) (xNil)))))
    (zSeq (zIf (yOr (yV (xBin ltD (xV 2) (xC (.int 2)))) (yV (xBin ltD (xV 3) (xC (.int 2))))) (zRet (xCall 2 (cl "_law_one") (xCons (xV 0) (xCons (xV 1) (xNil))))) (zNext))
    (zSeq (zIf (yOr (yV (xBin eqD (xV 3) (xC (.int 2)))) (yV (xBin ltD (xV 2) (xC (.int 3))))) (zRet (xTup (xCons (xC (.str "list")) (xCons (xCall 3 (cl "_law_any_kind") (xCons (xV 0) (xCons (xV 1) (xCons (xBin subD (xV 2) (xC (.int 1))) (xNil))))) (xNil))))) (zNext))
    (zSeq (zSet 4 (xBin addD (xC (.int 1)) (xCall 2 (cl "_law_take") (xCons (xV 0) (xCons (xBin subD (xV 2) (xC (.int 2))) (xNil))))))
    (zSeq (zSet 5 (xIdx (xLst (xCons (xC (.str "pair")) (xCons (xC (.str "fun")) (xNil)))) (xBin subD (xV 3) (xC (.int 3)))))
    (zRet (xTup (xCons (xV 5) (xCons (xCall 3 (cl "_law_any_kind") (xCons (xV 0) (xCons (xV 1) (xCons (xV 4) (xNil))))) (xCons (xCall 3 (cl "_law_any_kind") (xCons (xV 0) (xCons (xV 1) (xCons (xBin subD (xBin subD (xV 2) (xC (.int 1))) (xV 4)) (xNil))))) (xNil))))))))))
def fd__law_any_kind : Fd := ⟨3, 6, b__law_any_kind⟩
def b__law_is_name (cl : Str → List D → Hh → Res D) : Fs :=
  zSeq (zIf (yOr (yNot (yV (xBi .isi (xCons (xV 0) (xCons (xC (.val (.ty "str"))) (xNil)))))) (yNot (yV (xChain leD leD (xC (.int 1)) (xBi .len (xCons (xV 0) (xNil))) (xC (.int 8)))))) (zRet (xC (.bl false))) (zNext))
    (zRet (xBin eqD (xLcG lcF (iV (xV 0)) [1] (gN 1) (yV (xBin ninD (xV 1) (xC (.str "abcdefghijklmnopqrstuvwxyz")))) (xV 1)) (xLst (xNil))))
def fd__law_is_name : Fd := ⟨1, 2, b__law_is_name⟩
def b__law_is_kind (cl : Str → List D → Hh → Res D) : Fs :=
  zSeq (zIf (yNot (yV (xBi .isi (xCons (xV 0) (xCons (xC (.val (.ty "tuple"))) (xNil)))))) (zRet (xCall 1 (cl "_law_is_name") (xCons (xV 0) (xNil)))) (zNext))
    (zSeq (zIf (yOr (yV (xBin ninD (xBi .len (xCons (xV 0) (xNil))) (xTup (xCons (xC (.int 2)) (xCons (xC (.int 3)) (xNil)))))) (yOr (yNot (yV (xBi .isi (xCons (xIdx (xV 0) (xC (.int 0))) (xCons (xC (.val (.ty "str"))) (xNil)))))) (yV (xBin ninD (xIdx (xV 0) (xC (.int 0))) (xV 1))))) (zRet (xC (.bl false))) (zNext))
    (zSeq (zIf (yV (xBin neD (xBi .len (xCons (xV 0) (xNil))) (xIdx (xLst (xCons (xC (.int 2)) (xCons (xC (.int 3)) (xNil)))) (xBi .int (xCons (xBin neD (xIdx (xV 0) (xC (.int 0))) (xC (.str "list"))) (xNil)))))) (zRet (xC (.bl false))) (zNext))
    (zRet (xBin eqD (xLcG lcF (iV (xSlc (xV 0) (xSome (xC (.int 1))) (xNo))) [2] (gN 2) (yNot (yV (xCall 2 (cl "_law_is_kind") (xCons (xV 2) (xCons (xV 1) (xNil)))))) (xV 2)) (xLst (xNil))))))
def fd__law_is_kind : Fd := ⟨2, 3, b__law_is_kind⟩
def b__law_is_form (cl : Str → List D → Hh → Res D) : Fs :=
  zSeq (zIf (yOr (yNot (yV (xBi .isi (xCons (xV 0) (xCons (xC (.val (.ty "tuple"))) (xNil)))))) (yOr (yV (xBin ninD (xBi .len (xCons (xV 0) (xNil))) (xTup (xCons (xC (.int 2)) (xCons (xC (.int 3)) (xNil)))))) (yNot (yV (xBi .isi (xCons (xIdx (xV 0) (xC (.int 0))) (xCons (xC (.val (.ty "str"))) (xNil)))))))) (zRet (xC (.bl false))) (zNext))
    (zSeq (zIf (yV (xBin eqD (xIdx (xV 0) (xC (.int 0))) (xC (.str "same")))) (zRet (xAnd (xBin eqD (xBi .len (xCons (xV 0) (xNil))) (xC (.int 2))) (xCall 2 (cl "_law_is_kind") (xCons (xIdx (xV 0) (xC (.int 1))) (xCons (xLst (xCons (xC (.str "list")) (xCons (xC (.str "pair")) (xCons (xC (.str "fun")) (xNil))))) (xNil)))))) (zNext))
    (zSeq (zIf (yV (xBin eqD (xIdx (xV 0) (xC (.int 0))) (xC (.str "then")))) (zRet (xAnd (xBin eqD (xBi .len (xCons (xV 0) (xNil))) (xC (.int 3))) (xAnd (xCall 1 (cl "_law_is_form") (xCons (xIdx (xV 0) (xC (.int 1))) (xNil))) (xCall 1 (cl "_law_is_name") (xCons (xIdx (xV 0) (xC (.int 2))) (xNil)))))) (zNext))
    (zSeq (zIf (yOr (yV (xBin ninD (xIdx (xV 0) (xC (.int 0))) (xTup (xCons (xC (.str "list")) (xCons (xC (.str "pair")) (xCons (xC (.str "fun")) (xNil))))))) (yV (xBin neD (xBi .len (xCons (xV 0) (xNil))) (xIdx (xLst (xCons (xC (.int 2)) (xCons (xC (.int 3)) (xNil)))) (xBi .int (xCons (xBin neD (xIdx (xV 0) (xC (.int 0))) (xC (.str "list"))) (xNil))))))) (zRet (xC (.bl false))) (zNext))
    (zSeq (zIf (yV (xBin neD (xLcG lcF (iV (xSlc (xV 0) (xSome (xC (.int 1))) (xNo))) [1] (gN 1) (yNot (yV (xCall 1 (cl "_law_is_form") (xCons (xV 1) (xNil))))) (xV 1)) (xLst (xNil)))) (zRet (xC (.bl false))) (zNext))
    (zRet (xBin neD (xLcG lcF (iV (xSlc (xV 0) (xSome (xC (.int 1))) (xNo))) [1] (gN 1) (yV (xBin neD (xIdx (xV 1) (xC (.int 0))) (xC (.str "same")))) (xV 1)) (xLst (xNil))))))))
def fd__law_is_form : Fd := ⟨1, 2, b__law_is_form⟩
def b__law_odd (cl : Str → List D → Hh → Res D) : Fs :=
  zSeq (zSet 1 (xLst (xNil)))
    (zSeq (zFor (iR1 (xCons (xC (.int 20)) (xNil))) (gN 2) (zSet 1 (xLst (xCons (xV 1) (xNil)))))
    (zSeq (zSet 3 (xLst (xCons (xC .non) (xCons (xC (.bl true)) (xCons (xC (.bl false)) (xCons (xC (.int 0)) (xCons (xUn negD (xC (.int 1))) (xCons (xBin powD (xC (.int 10)) (xC (.int 39))) (xCons (xC (.str "")) (xCons (xC (.str "a")) (xCons (xC (.str "A")) (xCons (xC (.str "ninesigns")) (xCons (xC (.str "a b")) (xCons (xC (.str "a1")) (xCons (xTup (xNil)) (xCons (xLst (xNil)) (xCons (xDct0) (xCons (xTup (xCons (xC (.str "a")) (xNil))) (xNil)))))))))))))))))))
    (zSeq (zSet 3 (xBin addD (xV 3) (xLst (xCons (xLst (xCons (xC (.str "list")) (xCons (xC (.str "a")) (xNil)))) (xCons (xTup (xCons (xC (.str "list")) (xNil))) (xCons (xTup (xCons (xC (.str "list")) (xCons (xC (.str "a")) (xCons (xC (.str "a")) (xNil))))) (xCons (xTup (xCons (xC (.str "pair")) (xCons (xC (.str "a")) (xNil)))) (xCons (xTup (xCons (xC (.str "fun")) (xCons (xC (.str "a")) (xNil)))) (xCons (xTup (xCons (xC (.str "same")) (xNil))) (xNil))))))))))
    (zSeq (zSet 3 (xBin addD (xV 3) (xLst (xCons (xTup (xCons (xC (.str "then")) (xCons (xC (.str "a")) (xCons (xC (.str "b")) (xNil))))) (xCons (xV 1) (xNil))))))
    (zSeq (zSet 3 (xBin addD (xV 3) (xLst (xCons (xTup (xCons (xC (.str "list")) (xCons (xLst (xCons (xC (.str "a")) (xNil))) (xNil)))) (xCons (xTup (xCons (xC (.str "List")) (xCons (xC (.str "a")) (xNil)))) (xCons (xTup (xCons (xC (.str "same")) (xCons (xC (.str "a")) (xCons (xC (.str "b")) (xNil))))) (xCons (xTup (xCons (xC (.str "list")) (xCons (xTup (xCons (xC (.str "same")) (xCons (xC (.str "a")) (xNil)))) (xNil)))) (xCons (xBin mulD (xLst (xCons (xC (.int 0)) (xNil))) (xC (.int 4900))) (xNil)))))))))
    (zRet (xIdx (xV 3) (xCall 2 (cl "_law_take") (xCons (xV 0) (xCons (xC (.int 29)) (xNil)))))))))))
def fd__law_odd : Fd := ⟨1, 4, b__law_odd⟩
def b__law_way (cl : Str → List D → Hh → Res D) : Fs :=
  zSeq (zSet 3 (xCall 2 (cl "_law_take") (xCons (xV 0) (xCons (xC (.int 6)) (xNil)))))
    (zSeq (zIf (yOr (yV (xBin eqD (xV 2) (xC (.int 0)))) (yV (xBin eqD (xV 3) (xC (.int 0))))) (zRet (xTup (xCons (xC (.str "same")) (xCons (xCall 3 (cl "_law_any_kind") (xCons (xV 0) (xCons (xV 1) (xCons (xC (.int 4)) (xNil))))) (xNil))))) (zNext))
    (zSeq (zIf (yV (xBin ltD (xV 3) (xC (.int 3)))) (zRet (xTup (xCons (xC (.str "then")) (xCons (xCall 3 (cl "_law_way") (xCons (xV 0) (xCons (xV 1) (xCons (xBin subD (xV 2) (xC (.int 1))) (xNil))))) (xCons (xCall 2 (cl "_law_one") (xCons (xV 0) (xCons (xV 1) (xNil)))) (xNil)))))) (zNext))
    (zSeq (zIf (yV (xBin eqD (xV 3) (xC (.int 3)))) (zRet (xTup (xCons (xC (.str "list")) (xCons (xCall 3 (cl "_law_way") (xCons (xV 0) (xCons (xV 1) (xCons (xBin subD (xV 2) (xC (.int 1))) (xNil))))) (xNil))))) (zNext))
    (zRet (xTup (xCons (xIdx (xLst (xCons (xC (.str "pair")) (xCons (xC (.str "fun")) (xNil)))) (xBin subD (xV 3) (xC (.int 4)))) (xCons (xCall 3 (cl "_law_way") (xCons (xV 0) (xCons (xV 1) (xCons (xBin subD (xV 2) (xC (.int 1))) (xNil))))) (xCons (xCall 3 (cl "_law_way") (xCons (xV 0) (xCons (xV 1) (xCons (xBin subD (xV 2) (xC (.int 1))) (xNil))))) (xNil)))))))))
def fd__law_way : Fd := ⟨3, 4, b__law_way⟩
def b__law_bent (cl : Str → List D → Hh → Res D) : Fs :=
  zSeq (zIf (yOr (yNot (yV (xBi .isi (xCons (xV 1) (xCons (xC (.val (.ty "tuple"))) (xNil)))))) (yOr (yV (xBin eqD (xV 1) (xTup (xNil)))) (yV (xBin eqD (xCall 2 (cl "_law_take") (xCons (xV 0) (xCons (xC (.int 3)) (xNil)))) (xC (.int 0)))))) (zRet (xCall 1 (cl "_law_odd") (xCons (xV 0) (xNil)))) (zNext))
    (zSeq (zPar 2 3 (xCons (xCall 2 (cl "_law_take") (xCons (xV 0) (xCons (xBi .len (xCons (xV 1) (xNil))) (xNil)))) (xCons (xCall 2 (cl "_law_take") (xCons (xV 0) (xCons (xC (.int 8)) (xNil)))) (xNil))))
    (zSeq (zIf (yV (xBin eqD (xV 3) (xC (.int 0)))) (zRet (xBin addD (xV 1) (xTup (xCons (xIdx (xV 1) (xV 2)) (xNil))))) (zNext))
    (zSeq (zIf (yV (xBin eqD (xV 3) (xC (.int 1)))) (zRet (xBin addD (xSlc (xV 1) (xNo) (xSome (xV 2))) (xSlc (xV 1) (xSome (xBin addD (xV 2) (xC (.int 1)))) (xNo)))) (zNext))
    (zSeq (zIf (yV (xBin eqD (xV 3) (xC (.int 2)))) (zRet (xBi .list (xCons (xV 1) (xNil)))) (zNext))
    (zRet (xBin addD (xBin addD (xSlc (xV 1) (xNo) (xSome (xV 2))) (xTup (xCons (xCall 2 (cl "_law_bent") (xCons (xV 0) (xCons (xIdx (xV 1) (xV 2)) (xNil)))) (xNil)))) (xSlc (xV 1) (xSome (xBin addD (xV 2) (xC (.int 1)))) (xNo))))))))
def fd__law_bent : Fd := ⟨2, 4, b__law_bent⟩
def b__law_great (cl : Str → List D → Hh → Res D) : Fs :=
  zSeq (zFor (iR1 (xCons (xCall 2 (cl "_law_take") (xCons (xV 0) (xCons (xC (.int 6)) (xNil)))) (xNil))) (gN 2) (zSet 1 (xTup (xCons (xC (.str "pair")) (xCons (xV 1) (xCons (xV 1) (xNil)))))))
    (zSeq (zFor (iR1 (xCons (xCall 2 (cl "_law_take") (xCons (xV 0) (xCons (xC (.int 31)) (xNil)))) (xNil))) (gN 2) (zSet 1 (xTup (xCons (xC (.str "list")) (xCons (xV 1) (xNil))))))
    (zRet (xIfe (yV (xBin eqD (xCall 2 (cl "_law_take") (xCons (xV 0) (xCons (xC (.int 2)) (xNil)))) (xC (.int 0)))) (xTup (xCons (xC (.str "same")) (xCons (xV 1) (xNil)))) (xV 1))))
def fd__law_great : Fd := ⟨2, 3, b__law_great⟩
def b_law (cl : Str → List D → Hh → Res D) : Fs :=
  zSeq (zSet 1 (xCall 1 (cl "_law_bag") (xCons (xV 0) (xNil))))
    (zSeq (zFor (iR1 (xCons (xC (.int 30)) (xNil))) (gN 2) (zSeq (zSet 3 (xCall 2 (cl "_law_names") (xCons (xV 1) (xCons (xC (.int 3)) (xNil)))))
    (zSeq (zSet 4 (xIfe (yV (xBin eqD (xCall 2 (cl "_law_take") (xCons (xV 1) (xCons (xC (.int 2)) (xNil)))) (xC (.int 0)))) (xCall 3 (cl "_law_any_kind") (xCons (xV 1) (xCons (xV 3) (xCons (xC (.int 9)) (xNil))))) (xCall 3 (cl "_law_way") (xCons (xV 1) (xCons (xV 3) (xCons (xC (.int 3)) (xNil)))))))
    (zSeq (zSet 5 (xCall 2 (cl "_law_take") (xCons (xV 1) (xCons (xC (.int 6)) (xNil)))))
    (zSeq (zIf (yV (xBin eqD (xV 5) (xC (.int 0)))) (zSet 4 (xCall 2 (cl "_law_great") (xCons (xV 1) (xCons (xCall 3 (cl "_law_any_kind") (xCons (xV 1) (xCons (xV 3) (xCons (xC (.int 4)) (xNil))))) (xNil))))) (zIf (yV (xBin eqD (xV 5) (xC (.int 1)))) (zSeq (zPar 4 11 (xCons (xCall 2 (cl "_law_one") (xCons (xV 1) (xCons (xV 3) (xNil)))) (xCons (xCall 2 (cl "_law_take") (xCons (xV 1) (xCons (xC (.int 3)) (xNil)))) (xNil))))
    (zSet 4 (xBin addD (xBin addD (xSlc (xV 4) (xNo) (xSome (xV 11))) (xCall 2 (cl "_law_one") (xCons (xV 1) (xCons (xC (.str " !-./09:@AZ[_`{|~az")) (xNil))))) (xSlc (xV 4) (xSome (xV 11)) (xNo))))) (zIf (yV (xBin ltD (xV 5) (xC (.int 5)))) (zSet 4 (xCall 2 (cl "_law_bent") (xCons (xV 1) (xCons (xV 4) (xNil))))) (zNext))))
    (zSeq (zPar 8 9 (xCons (xBi .repr (xCons (xV 4) (xNil))) (xCons (xLst (xCons (xC (.str "list")) (xCons (xC (.str "pair")) (xCons (xC (.str "fun")) (xNil))))) (xNil))))
    (zSeq (zSet 6 (xLst (xCons (xAnd (xBi .isi (xCons (xV 4) (xCons (xC (.val (.ty "int"))) (xNil)))) (xNot (xBi .isi (xCons (xV 4) (xCons (xC (.val (.ty "bool"))) (xNil)))))) (xCons (xCall 1 (cl "_law_is_name") (xCons (xV 4) (xNil))) (xNil)))))
    (zSeq (zSet 6 (xBin addD (xV 6) (xLst (xCons (xCall 2 (cl "_law_is_kind") (xCons (xV 4) (xCons (xV 9) (xNil)))) (xCons (xCall 2 (cl "_law_is_kind") (xCons (xV 4) (xCons (xLst (xCons (xC (.str "list")) (xCons (xC (.str "pair")) (xNil)))) (xNil)))) (xCons (xCall 1 (cl "_law_is_form") (xCons (xV 4) (xNil))) (xNil)))))))
    (zFor (iR1 (xCons (xC (.int 2)) (xNil))) (gN 7) (zSeq (zSet 10 (xLst (xCons (xCall 1 (cl "is_integer") (xCons (xV 4) (xNil))) (xCons (xCall 1 (cl "is_name") (xCons (xV 4) (xNil))) (xCons (xCall 1 (cl "is_kind") (xCons (xV 4) (xNil))) (xCons (xCall 1 (cl "is_plain") (xCons (xV 4) (xNil))) (xCons (xCall 1 (cl "is_form") (xCons (xV 4) (xNil))) (xNil))))))))
    (zIf (yOr (yNot (yV (xCall 2 (cl "_law_alike") (xCons (xV 10) (xCons (xV 6) (xNil)))))) (yV (xBin neD (xBi .repr (xCons (xV 4) (xNil))) (xV 8)))) (zRet (xC (.bl false))) (zNext))))))))))))
    (zRet (xC (.bl true))))
def fd_law : Fd := ⟨1, 12, b_law⟩
def tab : Tab := fun x => if x = "is_integer" then some fd_is_integer else if x = "is_name" then some fd_is_name else if x = "is_word" then some fd_is_word else if x = "is_kind" then some fd_is_kind else if x = "parts" then some fd_parts else if x = "has_functions" then some fd_has_functions else if x = "is_plain" then some fd_is_plain else if x = "is_form" then some fd_is_form else if x = "_law_bag" then some fd__law_bag else if x = "_law_take" then some fd__law_take else if x = "_law_alike" then some fd__law_alike else if x = "_law_one" then some fd__law_one else if x = "_law_names" then some fd__law_names else if x = "_law_any_kind" then some fd__law_any_kind else if x = "_law_is_name" then some fd__law_is_name else if x = "_law_is_kind" then some fd__law_is_kind else if x = "_law_is_form" then some fd__law_is_form else if x = "_law_odd" then some fd__law_odd else if x = "_law_way" then some fd__law_way else if x = "_law_bent" then some fd__law_bent else if x = "_law_great" then some fd__law_great else if x = "law" then some fd_law else none
theorem t_is_integer : tab "is_integer" = some fd_is_integer := by unfold tab; rw [if_pos rfl]
theorem t_is_name : tab "is_name" = some fd_is_name := by unfold tab; rw [if_neg (by decide +kernel)]; rw [if_pos rfl]
theorem t_is_word : tab "is_word" = some fd_is_word := by unfold tab; rw [if_neg (by decide +kernel)]; rw [if_neg (by decide +kernel)]; rw [if_pos rfl]
theorem t_is_kind : tab "is_kind" = some fd_is_kind := by unfold tab; rw [if_neg (by decide +kernel)]; rw [if_neg (by decide +kernel)]; rw [if_neg (by decide +kernel)]; rw [if_pos rfl]
theorem t_parts : tab "parts" = some fd_parts := by unfold tab; rw [if_neg (by decide +kernel)]; rw [if_neg (by decide +kernel)]; rw [if_neg (by decide +kernel)]; rw [if_neg (by decide +kernel)]; rw [if_pos rfl]
theorem t_has_functions : tab "has_functions" = some fd_has_functions := by unfold tab; rw [if_neg (by decide +kernel)]; rw [if_neg (by decide +kernel)]; rw [if_neg (by decide +kernel)]; rw [if_neg (by decide +kernel)]; rw [if_neg (by decide +kernel)]; rw [if_pos rfl]
theorem t_is_plain : tab "is_plain" = some fd_is_plain := by unfold tab; rw [if_neg (by decide +kernel)]; rw [if_neg (by decide +kernel)]; rw [if_neg (by decide +kernel)]; rw [if_neg (by decide +kernel)]; rw [if_neg (by decide +kernel)]; rw [if_neg (by decide +kernel)]; rw [if_pos rfl]
theorem t_is_form : tab "is_form" = some fd_is_form := by unfold tab; rw [if_neg (by decide +kernel)]; rw [if_neg (by decide +kernel)]; rw [if_neg (by decide +kernel)]; rw [if_neg (by decide +kernel)]; rw [if_neg (by decide +kernel)]; rw [if_neg (by decide +kernel)]; rw [if_neg (by decide +kernel)]; rw [if_pos rfl]
theorem t__law_bag : tab "_law_bag" = some fd__law_bag := by unfold tab; rw [if_neg (by decide +kernel)]; rw [if_neg (by decide +kernel)]; rw [if_neg (by decide +kernel)]; rw [if_neg (by decide +kernel)]; rw [if_neg (by decide +kernel)]; rw [if_neg (by decide +kernel)]; rw [if_neg (by decide +kernel)]; rw [if_neg (by decide +kernel)]; rw [if_pos rfl]
theorem t__law_take : tab "_law_take" = some fd__law_take := by unfold tab; rw [if_neg (by decide +kernel)]; rw [if_neg (by decide +kernel)]; rw [if_neg (by decide +kernel)]; rw [if_neg (by decide +kernel)]; rw [if_neg (by decide +kernel)]; rw [if_neg (by decide +kernel)]; rw [if_neg (by decide +kernel)]; rw [if_neg (by decide +kernel)]; rw [if_neg (by decide +kernel)]; rw [if_pos rfl]
theorem t__law_alike : tab "_law_alike" = some fd__law_alike := by unfold tab; rw [if_neg (by decide +kernel)]; rw [if_neg (by decide +kernel)]; rw [if_neg (by decide +kernel)]; rw [if_neg (by decide +kernel)]; rw [if_neg (by decide +kernel)]; rw [if_neg (by decide +kernel)]; rw [if_neg (by decide +kernel)]; rw [if_neg (by decide +kernel)]; rw [if_neg (by decide +kernel)]; rw [if_neg (by decide +kernel)]; rw [if_pos rfl]
theorem t__law_one : tab "_law_one" = some fd__law_one := by unfold tab; rw [if_neg (by decide +kernel)]; rw [if_neg (by decide +kernel)]; rw [if_neg (by decide +kernel)]; rw [if_neg (by decide +kernel)]; rw [if_neg (by decide +kernel)]; rw [if_neg (by decide +kernel)]; rw [if_neg (by decide +kernel)]; rw [if_neg (by decide +kernel)]; rw [if_neg (by decide +kernel)]; rw [if_neg (by decide +kernel)]; rw [if_neg (by decide +kernel)]; rw [if_pos rfl]
theorem t__law_names : tab "_law_names" = some fd__law_names := by unfold tab; rw [if_neg (by decide +kernel)]; rw [if_neg (by decide +kernel)]; rw [if_neg (by decide +kernel)]; rw [if_neg (by decide +kernel)]; rw [if_neg (by decide +kernel)]; rw [if_neg (by decide +kernel)]; rw [if_neg (by decide +kernel)]; rw [if_neg (by decide +kernel)]; rw [if_neg (by decide +kernel)]; rw [if_neg (by decide +kernel)]; rw [if_neg (by decide +kernel)]; rw [if_neg (by decide +kernel)]; rw [if_pos rfl]
theorem t__law_any_kind : tab "_law_any_kind" = some fd__law_any_kind := by unfold tab; rw [if_neg (by decide +kernel)]; rw [if_neg (by decide +kernel)]; rw [if_neg (by decide +kernel)]; rw [if_neg (by decide +kernel)]; rw [if_neg (by decide +kernel)]; rw [if_neg (by decide +kernel)]; rw [if_neg (by decide +kernel)]; rw [if_neg (by decide +kernel)]; rw [if_neg (by decide +kernel)]; rw [if_neg (by decide +kernel)]; rw [if_neg (by decide +kernel)]; rw [if_neg (by decide +kernel)]; rw [if_neg (by decide +kernel)]; rw [if_pos rfl]
theorem t__law_is_name : tab "_law_is_name" = some fd__law_is_name := by unfold tab; rw [if_neg (by decide +kernel)]; rw [if_neg (by decide +kernel)]; rw [if_neg (by decide +kernel)]; rw [if_neg (by decide +kernel)]; rw [if_neg (by decide +kernel)]; rw [if_neg (by decide +kernel)]; rw [if_neg (by decide +kernel)]; rw [if_neg (by decide +kernel)]; rw [if_neg (by decide +kernel)]; rw [if_neg (by decide +kernel)]; rw [if_neg (by decide +kernel)]; rw [if_neg (by decide +kernel)]; rw [if_neg (by decide +kernel)]; rw [if_neg (by decide +kernel)]; rw [if_pos rfl]
theorem t__law_is_kind : tab "_law_is_kind" = some fd__law_is_kind := by unfold tab; rw [if_neg (by decide +kernel)]; rw [if_neg (by decide +kernel)]; rw [if_neg (by decide +kernel)]; rw [if_neg (by decide +kernel)]; rw [if_neg (by decide +kernel)]; rw [if_neg (by decide +kernel)]; rw [if_neg (by decide +kernel)]; rw [if_neg (by decide +kernel)]; rw [if_neg (by decide +kernel)]; rw [if_neg (by decide +kernel)]; rw [if_neg (by decide +kernel)]; rw [if_neg (by decide +kernel)]; rw [if_neg (by decide +kernel)]; rw [if_neg (by decide +kernel)]; rw [if_neg (by decide +kernel)]; rw [if_pos rfl]
theorem t__law_is_form : tab "_law_is_form" = some fd__law_is_form := by unfold tab; rw [if_neg (by decide +kernel)]; rw [if_neg (by decide +kernel)]; rw [if_neg (by decide +kernel)]; rw [if_neg (by decide +kernel)]; rw [if_neg (by decide +kernel)]; rw [if_neg (by decide +kernel)]; rw [if_neg (by decide +kernel)]; rw [if_neg (by decide +kernel)]; rw [if_neg (by decide +kernel)]; rw [if_neg (by decide +kernel)]; rw [if_neg (by decide +kernel)]; rw [if_neg (by decide +kernel)]; rw [if_neg (by decide +kernel)]; rw [if_neg (by decide +kernel)]; rw [if_neg (by decide +kernel)]; rw [if_neg (by decide +kernel)]; rw [if_pos rfl]
theorem t__law_odd : tab "_law_odd" = some fd__law_odd := by unfold tab; rw [if_neg (by decide +kernel)]; rw [if_neg (by decide +kernel)]; rw [if_neg (by decide +kernel)]; rw [if_neg (by decide +kernel)]; rw [if_neg (by decide +kernel)]; rw [if_neg (by decide +kernel)]; rw [if_neg (by decide +kernel)]; rw [if_neg (by decide +kernel)]; rw [if_neg (by decide +kernel)]; rw [if_neg (by decide +kernel)]; rw [if_neg (by decide +kernel)]; rw [if_neg (by decide +kernel)]; rw [if_neg (by decide +kernel)]; rw [if_neg (by decide +kernel)]; rw [if_neg (by decide +kernel)]; rw [if_neg (by decide +kernel)]; rw [if_neg (by decide +kernel)]; rw [if_pos rfl]
theorem t__law_way : tab "_law_way" = some fd__law_way := by unfold tab; rw [if_neg (by decide +kernel)]; rw [if_neg (by decide +kernel)]; rw [if_neg (by decide +kernel)]; rw [if_neg (by decide +kernel)]; rw [if_neg (by decide +kernel)]; rw [if_neg (by decide +kernel)]; rw [if_neg (by decide +kernel)]; rw [if_neg (by decide +kernel)]; rw [if_neg (by decide +kernel)]; rw [if_neg (by decide +kernel)]; rw [if_neg (by decide +kernel)]; rw [if_neg (by decide +kernel)]; rw [if_neg (by decide +kernel)]; rw [if_neg (by decide +kernel)]; rw [if_neg (by decide +kernel)]; rw [if_neg (by decide +kernel)]; rw [if_neg (by decide +kernel)]; rw [if_neg (by decide +kernel)]; rw [if_pos rfl]
theorem t__law_bent : tab "_law_bent" = some fd__law_bent := by unfold tab; rw [if_neg (by decide +kernel)]; rw [if_neg (by decide +kernel)]; rw [if_neg (by decide +kernel)]; rw [if_neg (by decide +kernel)]; rw [if_neg (by decide +kernel)]; rw [if_neg (by decide +kernel)]; rw [if_neg (by decide +kernel)]; rw [if_neg (by decide +kernel)]; rw [if_neg (by decide +kernel)]; rw [if_neg (by decide +kernel)]; rw [if_neg (by decide +kernel)]; rw [if_neg (by decide +kernel)]; rw [if_neg (by decide +kernel)]; rw [if_neg (by decide +kernel)]; rw [if_neg (by decide +kernel)]; rw [if_neg (by decide +kernel)]; rw [if_neg (by decide +kernel)]; rw [if_neg (by decide +kernel)]; rw [if_neg (by decide +kernel)]; rw [if_pos rfl]
theorem t__law_great : tab "_law_great" = some fd__law_great := by unfold tab; rw [if_neg (by decide +kernel)]; rw [if_neg (by decide +kernel)]; rw [if_neg (by decide +kernel)]; rw [if_neg (by decide +kernel)]; rw [if_neg (by decide +kernel)]; rw [if_neg (by decide +kernel)]; rw [if_neg (by decide +kernel)]; rw [if_neg (by decide +kernel)]; rw [if_neg (by decide +kernel)]; rw [if_neg (by decide +kernel)]; rw [if_neg (by decide +kernel)]; rw [if_neg (by decide +kernel)]; rw [if_neg (by decide +kernel)]; rw [if_neg (by decide +kernel)]; rw [if_neg (by decide +kernel)]; rw [if_neg (by decide +kernel)]; rw [if_neg (by decide +kernel)]; rw [if_neg (by decide +kernel)]; rw [if_neg (by decide +kernel)]; rw [if_neg (by decide +kernel)]; rw [if_pos rfl]
theorem t_law : tab "law" = some fd_law := by unfold tab; rw [if_neg (by decide +kernel)]; rw [if_neg (by decide +kernel)]; rw [if_neg (by decide +kernel)]; rw [if_neg (by decide +kernel)]; rw [if_neg (by decide +kernel)]; rw [if_neg (by decide +kernel)]; rw [if_neg (by decide +kernel)]; rw [if_neg (by decide +kernel)]; rw [if_neg (by decide +kernel)]; rw [if_neg (by decide +kernel)]; rw [if_neg (by decide +kernel)]; rw [if_neg (by decide +kernel)]; rw [if_neg (by decide +kernel)]; rw [if_neg (by decide +kernel)]; rw [if_neg (by decide +kernel)]; rw [if_neg (by decide +kernel)]; rw [if_neg (by decide +kernel)]; rw [if_neg (by decide +kernel)]; rw [if_neg (by decide +kernel)]; rw [if_neg (by decide +kernel)]; rw [if_neg (by decide +kernel)]; rw [if_pos rfl]
end K11
namespace K11
open PySem PySem.Spec PyProof.Rows L2 Ax
def topS (i : Nat) : Stmt := PySem.Challenge.pw_unaskedways_k11_kinds_of_any_value.main.body.getD i (.Pass ⟨0, 0, 0, 0⟩)
structure GF (wo : World) (g : Gx) : Prop where
  z_len : g.mg "len" = none
  z_list : g.mg "list" = none
  z_tuple : g.mg "tuple" = none
  z_sum : g.mg "sum" = none
  z_max : g.mg "max" = none
  z_min : g.mg "min" = none
  z_abs : g.mg "abs" = none
  z_int : g.mg "int" = none
  z_sorted : g.mg "sorted" = none
  z_repr : g.mg "repr" = none
  z_all : g.mg "all" = none
  z_any : g.mg "any" = none
  z_isinstance : g.mg "isinstance" = none
  z_bool : g.mg "bool" = none
  z_range : g.mg "range" = none
  z_str : g.mg "str" = none
  c_LETTERS : ∃ t, g.mg "LETTERS" = some (.str "abcdefghijklmnopqrstuvwxyz" t)
  c_WIDTHS : KW g wo "WIDTHS" w_WIDTHS
theorem GF.nb {wo : World} {g : Gx} (G : GF wo g) : ∀ b : Bi, g.mg (biN b) = none
  | .len => G.z_len
  | .list => G.z_list
  | .nlist => G.z_list
  | .tuple => G.z_tuple
  | .sum => G.z_sum
  | .max => G.z_max
  | .min => G.z_min
  | .abs => G.z_abs
  | .int => G.z_int
  | .sorted => G.z_sorted
  | .nsorted => G.z_sorted
  | .repr => G.z_repr
  | .all => G.z_all
  | .any => G.z_any
  | .isi => G.z_isinstance
section
variable {P : Program} {wo : World} {g : Gx} {base : Heap} {k : Nat}
abbrev s_is_integer : Stmt := topS 3
theorem sc_is_integer : FnScope ["thing"] ["thing"] (defScope s_is_integer) := ⟨rfl, rfl, rfl, by decide +kernel, rfl, by decide +kernel, by decide +kernel⟩
theorem p_is_integer (G : GF wo g) (DS : Defs P wo g base tab k) {f : Addr} (cdv : Value) (A : Around) (out : List Env) (s : Shared) (H : Hp) (E : XK) (hr : RmG k (A.deeper (envOfC "is_integer" (defScope s_is_integer) s.heap.objs.size f cdv))) :
    PSs (bx P wo g base ["thing"] "is_integer" (defScope s_is_integer) f cdv A out s H E) (defBody s_is_integer) (tS g EF (b_is_integer (callN tab k))) :=
  have xo := bx_ok (P := P) (wo := wo) (g := g) (base := base) (out := out) (H := H) (E := E) sc_is_integer hr
  q_sone (q_ret (q_and (w_bi xo .isi G.nb (by rfl) rfl (q_cons (q_var (pv 0)) (q_cons (w_ty xo (by rfl) G.z_int) (q_nil)))) (q_one (q_not (w_bi xo .isi G.nb (by rfl) rfl (q_cons (q_var (pv 0)) (q_cons (w_ty xo (by rfl) G.z_bool) (q_nil))))))))
abbrev s_is_name : Stmt := topS 4
theorem sc_is_name : FnScope ["thing", "sign"] ["thing"] (defScope s_is_name) := ⟨rfl, rfl, rfl, by decide +kernel, rfl, by decide +kernel, by decide +kernel⟩
theorem p_is_name (G : GF wo g) (DS : Defs P wo g base tab k) {f : Addr} (cdv : Value) (A : Around) (out : List Env) (s : Shared) (H : Hp) (E : XK) (hr : RmG k (A.deeper (envOfC "is_name" (defScope s_is_name) s.heap.objs.size f cdv))) :
    PSs (bx P wo g base ["thing", "sign"] "is_name" (defScope s_is_name) f cdv A out s H E) (defBody s_is_name) (tS g EF (b_is_name (callN tab k))) :=
  have xo := bx_ok (P := P) (wo := wo) (g := g) (base := base) (out := out) (H := H) (E := E) sc_is_name hr
  q_sone (q_ret (q_and (w_bi xo .isi G.nb (by rfl) rfl (q_cons (q_var (pv 0)) (q_cons (w_ty xo (by rfl) G.z_str) (q_nil)))) (q_and (w_chain (le_ok xo) (le_ok xo) (q_int) (w_bi xo .len G.nb (by rfl) rfl (q_cons (q_var (pv 0)) (q_nil))) (q_int)) (q_one (w_bi xo .all G.nb (by rfl) rfl (q_cons (w_lc hands_frz (own := [("sign", 1)]) xo (blkOk_by (N := ["thing", "sign"]) (sc := defScope s_is_name) (by decide +kernel)) (q_it (q_var (pv 0))) (fun _ _ _ _ _ => q_gn (pg_name (i := 1) (XO.blk (xo)).nd rfl (.inl rfl))) (fun _ _ _ _ _ => q_pts0) (fun _ _ _ _ _ => q_cmp (in_ok (XO.blk (xo))) (q_var (pv 1)) (w_gstr (XO.blk (xo)) (by rfl) G.c_LETTERS))) (q_nil)))))))
abbrev s_is_word : Stmt := topS 5
theorem sc_is_word : FnScope ["thing"] ["thing"] (defScope s_is_word) := ⟨rfl, rfl, rfl, by decide +kernel, rfl, by decide +kernel, by decide +kernel⟩
theorem p_is_word (G : GF wo g) (DS : Defs P wo g base tab k) {f : Addr} (cdv : Value) (A : Around) (out : List Env) (s : Shared) (H : Hp) (E : XK) (hr : RmG k (A.deeper (envOfC "is_word" (defScope s_is_word) s.heap.objs.size f cdv))) :
    PSs (bx P wo g base ["thing"] "is_word" (defScope s_is_word) f cdv A out s H E) (defBody s_is_word) (tS g EF (b_is_word (callN tab k))) :=
  have xo := bx_ok (P := P) (wo := wo) (g := g) (base := base) (out := out) (H := H) (E := E) sc_is_word hr
  q_sone (q_ret (q_and (w_bi xo .isi G.nb (by rfl) rfl (q_cons (q_var (pv 0)) (q_cons (w_ty xo (by rfl) G.z_str) (q_nil)))) (q_one (q_inW xo rfl G.c_WIDTHS (by rfl) (q_var (pv 0))))))
abbrev s_is_kind : Stmt := topS 6
theorem sc_is_kind : FnScope ["thing", "part"] ["thing"] (defScope s_is_kind) := ⟨rfl, rfl, rfl, by decide +kernel, rfl, by decide +kernel, by decide +kernel⟩
theorem p_is_kind (G : GF wo g) (DS : Defs P wo g base tab k) {f : Addr} (cdv : Value) (A : Around) (out : List Env) (s : Shared) (H : Hp) (E : XK) (hr : RmG k (A.deeper (envOfC "is_kind" (defScope s_is_kind) s.heap.objs.size f cdv))) :
    PSs (bx P wo g base ["thing", "part"] "is_kind" (defScope s_is_kind) f cdv A out s H E) (defBody s_is_kind) (tS g EF (b_is_kind (callN tab k))) :=
  have xo := bx_ok (P := P) (wo := wo) (g := g) (base := base) (out := out) (H := H) (E := E) sc_is_kind hr
  q_seq (q_if (q_tv (w_bi xo .isi G.nb (by rfl) rfl (q_cons (q_var (pv 0)) (q_cons (w_ty xo (by rfl) G.z_str) (q_nil))))) (q_sone (q_ret (q_call xo rfl rfl rfl DS t_is_name hr (by rfl) (q_cons (q_var (pv 0)) (q_nil))))) (q_snil))
    (q_seq (q_if (PW.pt (q_tor (q_tnot (q_tv (w_bi xo .isi G.nb (by rfl) rfl (q_cons (q_var (pv 0)) (q_cons (w_ty xo (by rfl) G.z_tuple) (q_nil)))))) (q_tor (q_tcmp (lt_ok xo) (w_bi xo .len G.nb (by rfl) rfl (q_cons (q_var (pv 0)) (q_nil))) (q_int)) (q_tor (q_tnot (q_tv (q_call xo rfl rfl rfl DS t_is_word hr (by rfl) (q_cons (q_idx xo (q_var (pv 0)) (q_int)) (q_nil))))) (pw_or1 (q_tcmp (ne_ok xo) (w_bi xo .len G.nb (by rfl) rfl (q_cons (q_var (pv 0)) (q_nil))) (q_bin add_ok (q_idxW xo rfl G.c_WIDTHS (by rfl) (q_idx xo (q_var (pv 0)) (q_int))) (q_int)))))))) (q_sone (q_ret (q_bl))) (q_snil))
    (q_sone (q_ret (w_bi xo .all G.nb (by rfl) rfl (q_cons (w_lc hands_frz (own := [("part", 1)]) xo (blkOk_by (N := ["thing", "part"]) (sc := defScope s_is_kind) (by decide +kernel)) (q_it (q_slc xo (q_var (pv 0)) (q_some (q_int)) (q_no))) (fun _ _ _ _ _ => q_gn (pg_name (i := 1) (XO.blk (xo)).nd rfl (.inl rfl))) (fun _ _ _ _ _ => q_pts0) (fun _ _ _ _ _ => q_call (XO.blk (xo)) rfl rfl rfl DS t_is_kind hr (by rfl) (q_cons (q_var (pv 1)) (q_nil)))) (q_nil))))))
abbrev s_parts : Stmt := topS 7
theorem sc_parts : FnScope ["kind"] ["kind"] (defScope s_parts) := ⟨rfl, rfl, rfl, by decide +kernel, rfl, by decide +kernel, by decide +kernel⟩
theorem p_parts (G : GF wo g) (DS : Defs P wo g base tab k) {f : Addr} (cdv : Value) (A : Around) (out : List Env) (s : Shared) (H : Hp) (E : XK) (hr : RmG k (A.deeper (envOfC "parts" (defScope s_parts) s.heap.objs.size f cdv))) :
    PSs (bx P wo g base ["kind"] "parts" (defScope s_parts) f cdv A out s H E) (defBody s_parts) (tS g EF (b_parts (callN tab k))) :=
  have xo := bx_ok (P := P) (wo := wo) (g := g) (base := base) (out := out) (H := H) (E := E) sc_parts hr
  q_sone (q_ret (q_ife (q_tv (w_bi xo .isi G.nb (by rfl) rfl (q_cons (q_var (pv 0)) (q_cons (w_ty xo (by rfl) G.z_tuple) (q_nil))))) (w_bi xo .list G.nb (by rfl) rfl (q_cons (q_slc xo (q_var (pv 0)) (q_some (q_int)) (q_no)) (q_nil))) (q_lst (q_nil))))
abbrev s_has_functions : Stmt := topS 8
theorem sc_has_functions : FnScope ["kind", "part"] ["kind"] (defScope s_has_functions) := ⟨rfl, rfl, rfl, by decide +kernel, rfl, by decide +kernel, by decide +kernel⟩
theorem p_has_functions (G : GF wo g) (DS : Defs P wo g base tab k) {f : Addr} (cdv : Value) (A : Around) (out : List Env) (s : Shared) (H : Hp) (E : XK) (hr : RmG k (A.deeper (envOfC "has_functions" (defScope s_has_functions) s.heap.objs.size f cdv))) :
    PSs (bx P wo g base ["kind", "part"] "has_functions" (defScope s_has_functions) f cdv A out s H E) (defBody s_has_functions) (tS g EF (b_has_functions (callN tab k))) :=
  have xo := bx_ok (P := P) (wo := wo) (g := g) (base := base) (out := out) (H := H) (E := E) sc_has_functions hr
  q_sone (q_ret (q_and (w_bi xo .isi G.nb (by rfl) rfl (q_cons (q_var (pv 0)) (q_cons (w_ty xo (by rfl) G.z_tuple) (q_nil)))) (q_one (q_or (q_cmp (eq_ok xo) (q_idx xo (q_var (pv 0)) (q_int)) (q_str)) (q_one (w_bi xo .any G.nb (by rfl) rfl (q_cons (w_lc hands_frz (own := [("part", 1)]) xo (blkOk_by (N := ["kind", "part"]) (sc := defScope s_has_functions) (by decide +kernel)) (q_it (q_call xo rfl rfl rfl DS t_parts hr (by rfl) (q_cons (q_var (pv 0)) (q_nil)))) (fun _ _ _ _ _ => q_gn (pg_name (i := 1) (XO.blk (xo)).nd rfl (.inl rfl))) (fun _ _ _ _ _ => q_pts0) (fun _ _ _ _ _ => q_call (XO.blk (xo)) rfl rfl rfl DS t_has_functions hr (by rfl) (q_cons (q_var (pv 1)) (q_nil)))) (q_nil))))))))
abbrev s_is_plain : Stmt := topS 9
theorem sc_is_plain : FnScope ["thing"] ["thing"] (defScope s_is_plain) := ⟨rfl, rfl, rfl, by decide +kernel, rfl, by decide +kernel, by decide +kernel⟩
theorem p_is_plain (G : GF wo g) (DS : Defs P wo g base tab k) {f : Addr} (cdv : Value) (A : Around) (out : List Env) (s : Shared) (H : Hp) (E : XK) (hr : RmG k (A.deeper (envOfC "is_plain" (defScope s_is_plain) s.heap.objs.size f cdv))) :
    PSs (bx P wo g base ["thing"] "is_plain" (defScope s_is_plain) f cdv A out s H E) (defBody s_is_plain) (tS g EF (b_is_plain (callN tab k))) :=
  have xo := bx_ok (P := P) (wo := wo) (g := g) (base := base) (out := out) (H := H) (E := E) sc_is_plain hr
  q_sone (q_ret (q_and (q_call xo rfl rfl rfl DS t_is_kind hr (by rfl) (q_cons (q_var (pv 0)) (q_nil))) (q_one (q_not (q_call xo rfl rfl rfl DS t_has_functions hr (by rfl) (q_cons (q_var (pv 0)) (q_nil)))))))
abbrev s_is_form : Stmt := topS 11
theorem sc_is_form : FnScope ["thing", "part"] ["thing"] (defScope s_is_form) := ⟨rfl, rfl, rfl, by decide +kernel, rfl, by decide +kernel, by decide +kernel⟩
theorem p_is_form (G : GF wo g) (DS : Defs P wo g base tab k) {f : Addr} (cdv : Value) (A : Around) (out : List Env) (s : Shared) (H : Hp) (E : XK) (hr : RmG k (A.deeper (envOfC "is_form" (defScope s_is_form) s.heap.objs.size f cdv))) :
    PSs (bx P wo g base ["thing", "part"] "is_form" (defScope s_is_form) f cdv A out s H E) (defBody s_is_form) (tS g EF (b_is_form (callN tab k))) :=
  have xo := bx_ok (P := P) (wo := wo) (g := g) (base := base) (out := out) (H := H) (E := E) sc_is_form hr
  q_seq (q_if (PW.pt (q_tor (q_tnot (q_tv (w_bi xo .isi G.nb (by rfl) rfl (q_cons (q_var (pv 0)) (q_cons (w_ty xo (by rfl) G.z_tuple) (q_nil)))))) (q_tor (q_tcmp (lt_ok xo) (w_bi xo .len G.nb (by rfl) rfl (q_cons (q_var (pv 0)) (q_nil))) (q_int)) (pw_or1 (q_tnot (q_tv (w_bi xo .isi G.nb (by rfl) rfl (q_cons (q_idx xo (q_var (pv 0)) (q_int)) (q_cons (w_ty xo (by rfl) G.z_str) (q_nil)))))))))) (q_sone (q_ret (q_bl))) (q_snil))
    (q_seq (q_if (q_tcmp (eq_ok xo) (q_idx xo (q_var (pv 0)) (q_int)) (q_str)) (q_sone (q_ret (q_and (q_cmp (eq_ok xo) (w_bi xo .len G.nb (by rfl) rfl (q_cons (q_var (pv 0)) (q_nil))) (q_int)) (q_one (q_call xo rfl rfl rfl DS t_is_kind hr (by rfl) (q_cons (q_idx xo (q_var (pv 0)) (q_int)) (q_nil))))))) (q_snil))
    (q_seq (q_if (q_tcmp (eq_ok xo) (q_idx xo (q_var (pv 0)) (q_int)) (q_str)) (q_sone (q_ret (q_and (q_cmp (eq_ok xo) (w_bi xo .len G.nb (by rfl) rfl (q_cons (q_var (pv 0)) (q_nil))) (q_int)) (q_and (q_call xo rfl rfl rfl DS t_is_form hr (by rfl) (q_cons (q_idx xo (q_var (pv 0)) (q_int)) (q_nil))) (q_one (q_call xo rfl rfl rfl DS t_is_name hr (by rfl) (q_cons (q_idx xo (q_var (pv 0)) (q_int)) (q_nil)))))))) (q_snil))
    (q_seq (q_if (PW.pt (q_tor (q_tnot (q_tv (q_call xo rfl rfl rfl DS t_is_word hr (by rfl) (q_cons (q_idx xo (q_var (pv 0)) (q_int)) (q_nil))))) (pw_or1 (q_tcmp (ne_ok xo) (w_bi xo .len G.nb (by rfl) rfl (q_cons (q_var (pv 0)) (q_nil))) (q_bin add_ok (q_idxW xo rfl G.c_WIDTHS (by rfl) (q_idx xo (q_var (pv 0)) (q_int))) (q_int)))))) (q_sone (q_ret (q_bl))) (q_snil))
    (q_sone (q_ret (q_and (w_bi xo .all G.nb (by rfl) rfl (q_cons (w_lc hands_frz (own := [("part", 1)]) xo (blkOk_by (N := ["thing", "part"]) (sc := defScope s_is_form) (by decide +kernel)) (q_it (q_slc xo (q_var (pv 0)) (q_some (q_int)) (q_no))) (fun _ _ _ _ _ => q_gn (pg_name (i := 1) (XO.blk (xo)).nd rfl (.inl rfl))) (fun _ _ _ _ _ => q_pts0) (fun _ _ _ _ _ => q_call (XO.blk (xo)) rfl rfl rfl DS t_is_form hr (by rfl) (q_cons (q_var (pv 1)) (q_nil)))) (q_nil))) (q_one (w_bi xo .any G.nb (by rfl) rfl (q_cons (w_lc hands_frz (own := [("part", 1)]) xo (blkOk_by (N := ["thing", "part"]) (sc := defScope s_is_form) (by decide +kernel)) (q_it (q_slc xo (q_var (pv 0)) (q_some (q_int)) (q_no))) (fun _ _ _ _ _ => q_gn (pg_name (i := 1) (XO.blk (xo)).nd rfl (.inl rfl))) (fun _ _ _ _ _ => q_pts0) (fun _ _ _ _ _ => q_cmp (ne_ok (XO.blk (xo))) (q_idx (XO.blk (xo)) (q_var (pv 1)) (q_int)) (q_str))) (q_nil))))))))))
abbrev s__law_bag : Stmt := topS 13
theorem sc__law_bag : FnScope ["_law_script", "_law_cell"] ["_law_script"] (defScope s__law_bag) := ⟨rfl, rfl, rfl, by decide +kernel, rfl, by decide +kernel, by decide +kernel⟩
theorem p__law_bag (G : GF wo g) (DS : Defs P wo g base tab k) {f : Addr} (cdv : Value) (A : Around) (out : List Env) (s : Shared) (H : Hp) (E : XK) (hr : RmG k (A.deeper (envOfC "_law_bag" (defScope s__law_bag) s.heap.objs.size f cdv))) :
    PSs (bx P wo g base ["_law_script", "_law_cell"] "_law_bag" (defScope s__law_bag) f cdv A out s H E) (defBody s__law_bag) (tS g EF (b__law_bag (callN tab k))) :=
  have xo := bx_ok (P := P) (wo := wo) (g := g) (base := base) (out := out) (H := H) (E := E) sc__law_bag hr
  q_sone (q_ret (q_nlst (q_cons (q_int) (q_cons (q_int) (q_cons (q_int) (q_cons (w_lc hands_frz (own := [("_law_cell", 1)]) xo (blkOk_by (N := ["_law_script", "_law_cell"]) (sc := defScope s__law_bag) (by decide +kernel)) (q_it (q_slc xo (q_var (pv 0)) (q_no) (q_some (q_int)))) (fun _ _ _ _ _ => q_gn (pg_name (i := 1) (XO.blk (xo)).nd rfl (.inl rfl))) (fun _ _ _ _ _ => q_pts0) (fun _ _ _ _ _ => w_bi (XO.blk (xo)) .abs G.nb (by rfl) rfl (q_cons (q_var (pv 1)) (q_nil)))) (q_nil)))))))
abbrev s__law_take : Stmt := topS 14
theorem sc__law_take : FnScope ["_law_bag_here", "_law_many", "_law_begin", "_law_second", "_law_cell", "_law_mixed", "_law_value"] ["_law_bag_here", "_law_many"] (defScope s__law_take) := ⟨rfl, rfl, rfl, by decide +kernel, rfl, by decide +kernel, by decide +kernel⟩
theorem p__law_take (G : GF wo g) (DS : Defs P wo g base tab k) {f : Addr} (cdv : Value) (A : Around) (out : List Env) (s : Shared) (H : Hp) (E : XK) (hr : RmG k (A.deeper (envOfC "_law_take" (defScope s__law_take) s.heap.objs.size f cdv))) :
    PSs (bx P wo g base ["_law_bag_here", "_law_many", "_law_begin", "_law_second", "_law_cell", "_law_mixed", "_law_value"] "_law_take" (defScope s__law_take) f cdv A out s H E) (defBody s__law_take) (tS g EF (b__law_take (callN tab k))) :=
  have xo := bx_ok (P := P) (wo := wo) (g := g) (base := base) (out := out) (H := H) (E := E) sc__law_take hr
  q_seq (q_if (q_tcmp (eq_ok xo) (q_idx xo (q_var (pv 0)) (q_int)) (q_int)) (q_seq (w_set xo rfl (.inl rfl) (q_int))
    (q_seq (q_if (q_tcmp (lt_ok xo) (q_idx xo (q_var (pv 0)) (q_int)) (w_bi xo .len G.nb (by rfl) rfl (q_cons (q_idx xo (q_var (pv 0)) (q_int)) (q_nil)))) (q_sone (w_set xo rfl (.inl rfl) (q_idx xo (q_idx xo (q_var (pv 0)) (q_int)) (q_idx xo (q_var (pv 0)) (q_int))))) (q_snil))
    (q_seq (w_augix (q_var (pv 0)) (q_int) (q_int))
    (q_seq (q_if (q_tcmp (ge_ok xo) (q_var (pv 4)) (q_int)) (q_sone (w_setix (q_var (pv 4)) (q_var (pv 0)) (q_int))) (q_snil))
    (q_seq (w_set xo rfl (.inl rfl) (q_bin add_ok (q_bin add_ok (q_bin mul_ok (q_idx xo (q_var (pv 0)) (q_int)) (q_int)) (q_bin mod_ok (w_bi xo .int G.nb (by rfl) rfl (q_cons (q_var (pv 4)) (q_nil))) (q_int))) (q_bin mul_ok (q_int) (q_idx xo (q_var (pv 0)) (q_int)))))
    (q_sone (w_setix (q_bin mod_ok (w_bi xo .int G.nb (by rfl) rfl (q_cons (q_var (pv 5)) (q_nil))) (q_int)) (q_var (pv 0)) (q_int)))))))) (q_snil))
    (q_seq (q_if (q_tcmp (gt_ok xo) (q_idx xo (q_var (pv 0)) (q_int)) (q_int)) (q_seq (w_set xo rfl (.inl rfl) (q_bin mod_ok (w_bi xo .int G.nb (by rfl) rfl (q_cons (q_idx xo (q_var (pv 0)) (q_int)) (q_nil))) (q_var (pv 1))))
    (q_seq (w_setix (q_bin fdiv_ok (q_idx xo (q_var (pv 0)) (q_int)) (q_var (pv 1))) (q_var (pv 0)) (q_int))
    (q_sone (q_ret (q_var (pv 6)))))) (q_snil))
    (q_seq (w_set xo rfl (.inl rfl) (q_bin mod_ok (w_bi xo .int G.nb (by rfl) rfl (q_cons (q_bin mul_ok (q_bin add_ok (q_idx xo (q_var (pv 0)) (q_int)) (q_int)) (q_int)) (q_nil))) (q_int)))
    (q_seq (w_set xo rfl (.inl rfl) (q_bin mod_ok (w_bi xo .int G.nb (by rfl) rfl (q_cons (q_bin mul_ok (q_bin mod_ok (w_bi xo .int G.nb (by rfl) rfl (q_cons (q_bin mul_ok (q_var (pv 2)) (q_var (pv 2))) (q_nil))) (q_int)) (q_int)) (q_nil))) (q_int)))
    (q_seq (q_if (q_tcmp (gt_ok xo) (q_var (pv 1)) (q_int)) (q_sone (q_ret (q_bin mod_ok (w_bi xo .int G.nb (by rfl) rfl (q_cons (q_bin add_ok (q_bin mul_ok (q_var (pv 3)) (q_int)) (q_var (pv 2))) (q_nil))) (q_var (pv 1))))) (q_snil))
    (q_sone (q_ret (q_bin mod_ok (w_bi xo .int G.nb (by rfl) rfl (q_cons (q_bin fdiv_ok (q_var (pv 3)) (q_int)) (q_nil))) (q_var (pv 1)))))))))
abbrev s__law_alike : Stmt := topS 15
theorem sc__law_alike : FnScope ["_law_found", "_law_due"] ["_law_found", "_law_due"] (defScope s__law_alike) := ⟨rfl, rfl, rfl, by decide +kernel, rfl, by decide +kernel, by decide +kernel⟩
theorem p__law_alike (G : GF wo g) (DS : Defs P wo g base tab k) {f : Addr} (cdv : Value) (A : Around) (out : List Env) (s : Shared) (H : Hp) (E : XK) (hr : RmG k (A.deeper (envOfC "_law_alike" (defScope s__law_alike) s.heap.objs.size f cdv))) :
    PSs (bx P wo g base ["_law_found", "_law_due"] "_law_alike" (defScope s__law_alike) f cdv A out s H E) (defBody s__law_alike) (tS g EF (b__law_alike (callN tab k))) :=
  have xo := bx_ok (P := P) (wo := wo) (g := g) (base := base) (out := out) (H := H) (E := E) sc__law_alike hr
  q_sone (q_ret (q_and (q_cmp (eq_ok xo) (q_var (pv 0)) (q_var (pv 1))) (q_one (q_cmp (eq_ok xo) (w_bi xo .repr G.nb (by rfl) rfl (q_cons (q_var (pv 0)) (q_nil))) (w_bi xo .repr G.nb (by rfl) rfl (q_cons (q_var (pv 1)) (q_nil)))))))
abbrev s__law_one : Stmt := topS 16
theorem sc__law_one : FnScope ["_law_bag_here", "_law_things"] ["_law_bag_here", "_law_things"] (defScope s__law_one) := ⟨rfl, rfl, rfl, by decide +kernel, rfl, by decide +kernel, by decide +kernel⟩
theorem p__law_one (G : GF wo g) (DS : Defs P wo g base tab k) {f : Addr} (cdv : Value) (A : Around) (out : List Env) (s : Shared) (H : Hp) (E : XK) (hr : RmG k (A.deeper (envOfC "_law_one" (defScope s__law_one) s.heap.objs.size f cdv))) :
    PSs (bx P wo g base ["_law_bag_here", "_law_things"] "_law_one" (defScope s__law_one) f cdv A out s H E) (defBody s__law_one) (tS g EF (b__law_one (callN tab k))) :=
  have xo := bx_ok (P := P) (wo := wo) (g := g) (base := base) (out := out) (H := H) (E := E) sc__law_one hr
  q_sone (q_ret (q_idx xo (q_var (pv 1)) (q_call xo rfl rfl rfl DS t__law_take hr (by rfl) (q_cons (q_var (pv 0)) (q_cons (w_bi xo .len G.nb (by rfl) rfl (q_cons (q_var (pv 1)) (q_nil))) (q_nil))))))
abbrev s__law_names : Stmt := topS 17
theorem sc__law_names : FnScope ["_law_bag_here", "_law_many", "_law_menu", "_law_letters", "_law_stem", "_law_way_here", "_law_turn", "_law_k"] ["_law_bag_here", "_law_many"] (defScope s__law_names) := ⟨rfl, rfl, rfl, by decide +kernel, rfl, by decide +kernel, by decide +kernel⟩
theorem p__law_names (G : GF wo g) (DS : Defs P wo g base tab k) {f : Addr} (cdv : Value) (A : Around) (out : List Env) (s : Shared) (H : Hp) (E : XK) (hr : RmG k (A.deeper (envOfC "_law_names" (defScope s__law_names) s.heap.objs.size f cdv))) :
    PSs (bx P wo g base ["_law_bag_here", "_law_many", "_law_menu", "_law_letters", "_law_stem", "_law_way_here", "_law_turn", "_law_k"] "_law_names" (defScope s__law_names) f cdv A out s H E) (defBody s__law_names) (tS g EF (b__law_names (callN tab k))) :=
  have xo := bx_ok (P := P) (wo := wo) (g := g) (base := base) (out := out) (H := H) (E := E) sc__law_names hr
  q_seq (w_set xo rfl (.inl rfl) (q_str1 (fun a b => pe_split a b) (q_str) (q_str) (fun _ _ _ _ _ _ _ hr rv q => split_r hr rv q)))
    (q_seq (q_asg (ps_asg (q_tup (q_cons (q_call xo rfl rfl rfl DS t__law_take hr (by rfl) (q_cons (q_var (pv 0)) (q_cons (q_int) (q_nil)))) (q_cons (q_call xo rfl rfl rfl DS t__law_take hr (by rfl) (q_cons (q_var (pv 0)) (q_cons (q_int) (q_nil)))) (q_nil)))) (q_gt2 (pg_tup rfl (pgs_cons (pg_name (i := 5) xo.nd rfl (.inl rfl)) (pgs_cons (pg_name (i := 6) xo.nd rfl (.inr rfl)) (pgs_nil)))))))
    (q_seq (q_if (q_tcmp (eq_ok xo) (q_var (pv 5)) (q_int)) (q_sone (q_ret (w_bi xo .sorted G.nb (by rfl) rfl (q_cons (q_slc xo (q_bin add_ok (q_slc xo (q_var (pv 2)) (q_some (q_var (pv 6))) (q_no)) (q_slc xo (q_var (pv 2)) (q_no) (q_some (q_var (pv 6))))) (q_no) (q_some (q_var (pv 1)))) (q_nil))))) (q_snil))
    (q_seq (q_if (q_tcmp (eq_ok xo) (q_var (pv 5)) (q_int)) (q_sone (q_ret (w_bi xo .sorted G.nb (by rfl) rfl (q_cons (w_lc hands_frz (own := [("_law_k", 7)]) xo (blkOk_by (N := ["_law_bag_here", "_law_many", "_law_menu", "_law_letters", "_law_stem", "_law_way_here", "_law_turn", "_law_k"]) (sc := defScope s__law_names) (by decide +kernel)) (w_rng1 xo (by rfl) G.z_range (q_cons (q_var (pv 1)) (q_nil))) (fun _ _ _ _ _ => q_gn (pg_name (i := 7) (XO.blk (xo)).nd rfl (.inl rfl))) (fun _ _ _ _ _ => q_pts0) (fun _ _ _ _ _ => q_slc (XO.blk (xo)) (q_str) (q_no) (q_some (q_bin add_ok (q_var (pv 7)) (q_int))))) (q_nil))))) (q_snil))
    (q_seq (w_set xo rfl (.inr rfl) (q_str))
    (q_seq (w_set xo rfl (.inr rfl) (q_str1 (fun a b => pe_join a b) (q_str) (w_lc hands_frz (own := [("_law_k", 7)]) xo (blkOk_by (N := ["_law_bag_here", "_law_many", "_law_menu", "_law_letters", "_law_stem", "_law_way_here", "_law_turn", "_law_k"]) (sc := defScope s__law_names) (by decide +kernel)) (w_rng1 xo (by rfl) G.z_range (q_cons (q_bin sub_ok (q_var (pv 5)) (q_int)) (q_nil))) (fun _ _ _ _ _ => q_gn (pg_name (i := 7) (XO.blk (xo)).nd rfl (.inl rfl))) (fun _ _ _ _ _ => q_pts0) (fun _ _ _ _ _ => q_idx (XO.blk (xo)) (q_var (pv 3)) (q_call (XO.blk (xo)) rfl rfl rfl DS t__law_take hr (by rfl) (q_cons (q_var (pv 0)) (q_cons (q_int) (q_nil)))))) (fun _ _ _ _ _ _ _ hr rv q => join_r hr rv q)))
    (q_sone (q_ret (w_bi xo .sorted G.nb (by rfl) rfl (q_cons (w_lc hands_frz (own := [("_law_k", 7)]) xo (blkOk_by (N := ["_law_bag_here", "_law_many", "_law_menu", "_law_letters", "_law_stem", "_law_way_here", "_law_turn", "_law_k"]) (sc := defScope s__law_names) (by decide +kernel)) (w_rng1 xo (by rfl) G.z_range (q_cons (q_var (pv 1)) (q_nil))) (fun _ _ _ _ _ => q_gn (pg_name (i := 7) (XO.blk (xo)).nd rfl (.inl rfl))) (fun _ _ _ _ _ => q_pts0) (fun _ _ _ _ _ => q_bin add_ok (q_var (pv 4)) (q_idx (XO.blk (xo)) (q_var (pv 3)) (q_bin mod_ok (w_bi (XO.blk (xo)) .int G.nb (by rfl) rfl (q_cons (q_bin add_ok (q_var (pv 6)) (q_bin mul_ok (q_int) (q_var (pv 7)))) (q_nil))) (q_int))))) (q_nil))))))))))
abbrev s__law_any_kind : Stmt := topS 18
theorem sc__law_any_kind : FnScope ["_law_bag_here", "_law_names_here", "_law_upto", "_law_way_here", "_law_left", "_law_word"] ["_law_bag_here", "_law_names_here", "_law_upto"] (defScope s__law_any_kind) := ⟨rfl, rfl, rfl, by decide +kernel, rfl, by decide +kernel, by decide +kernel⟩
theorem p__law_any_kind (G : GF wo g) (DS : Defs P wo g base tab k) {f : Addr} (cdv : Value) (A : Around) (out : List Env) (s : Shared) (H : Hp) (E : XK) (hr : RmG k (A.deeper (envOfC "_law_any_kind" (defScope s__law_any_kind) s.heap.objs.size f cdv))) :
    PSs (bx P wo g base ["_law_bag_here", "_law_names_here", "_law_upto", "_law_way_here", "_law_left", "_law_word"] "_law_any_kind" (defScope s__law_any_kind) f cdv A out s H E) (defBody s__law_any_kind) (tS g EF (b__law_any_kind (callN tab k))) :=
  have xo := bx_ok (P := P) (wo := wo) (g := g) (base := base) (out := out) (H := H) (E := E) sc__law_any_kind hr
  q_seq (w_set xo rfl (.inl rfl) (q_call xo rfl rfl rfl DS t__law_take hr (by rfl) (q_cons (q_var (pv 0)) (q_cons (q_int) (q_nil)))))
    (q_seq (q_if (PW.pt (q_tor (q_tcmp (lt_ok xo) (q_var (pv 2)) (q_int)) (pw_or1 (q_tcmp (lt_ok xo) (q_var (pv 3)) (q_int))))) (q_sone (q_ret (q_call xo rfl rfl rfl DS t__law_one hr (by rfl) (q_cons (q_var (pv 0)) (q_cons (q_var (pv 1)) (q_nil)))))) (q_snil))
    (q_seq (q_if (PW.pt (q_tor (q_tcmp (eq_ok xo) (q_var (pv 3)) (q_int)) (pw_or1 (q_tcmp (lt_ok xo) (q_var (pv 2)) (q_int))))) (q_sone (q_ret (q_tup (q_cons (q_str) (q_cons (q_call xo rfl rfl rfl DS t__law_any_kind hr (by rfl) (q_cons (q_var (pv 0)) (q_cons (q_var (pv 1)) (q_cons (q_bin sub_ok (q_var (pv 2)) (q_int)) (q_nil))))) (q_nil)))))) (q_snil))
    (q_seq (w_set xo rfl (.inl rfl) (q_bin add_ok (q_int) (q_call xo rfl rfl rfl DS t__law_take hr (by rfl) (q_cons (q_var (pv 0)) (q_cons (q_bin sub_ok (q_var (pv 2)) (q_int)) (q_nil))))))
    (q_seq (w_set xo rfl (.inl rfl) (q_idx xo (q_lst (q_cons (q_str) (q_cons (q_str) (q_nil)))) (q_bin sub_ok (q_var (pv 3)) (q_int))))
    (q_sone (q_ret (q_tup (q_cons (q_var (pv 5)) (q_cons (q_call xo rfl rfl rfl DS t__law_any_kind hr (by rfl) (q_cons (q_var (pv 0)) (q_cons (q_var (pv 1)) (q_cons (q_var (pv 4)) (q_nil))))) (q_cons (q_call xo rfl rfl rfl DS t__law_any_kind hr (by rfl) (q_cons (q_var (pv 0)) (q_cons (q_var (pv 1)) (q_cons (q_bin sub_ok (q_bin sub_ok (q_var (pv 2)) (q_int)) (q_var (pv 4))) (q_nil))))) (q_nil)))))))))))
abbrev s__law_is_name : Stmt := topS 19
theorem sc__law_is_name : FnScope ["_law_thing", "_law_sign"] ["_law_thing"] (defScope s__law_is_name) := ⟨rfl, rfl, rfl, by decide +kernel, rfl, by decide +kernel, by decide +kernel⟩
theorem p__law_is_name (G : GF wo g) (DS : Defs P wo g base tab k) {f : Addr} (cdv : Value) (A : Around) (out : List Env) (s : Shared) (H : Hp) (E : XK) (hr : RmG k (A.deeper (envOfC "_law_is_name" (defScope s__law_is_name) s.heap.objs.size f cdv))) :
    PSs (bx P wo g base ["_law_thing", "_law_sign"] "_law_is_name" (defScope s__law_is_name) f cdv A out s H E) (defBody s__law_is_name) (tS g EF (b__law_is_name (callN tab k))) :=
  have xo := bx_ok (P := P) (wo := wo) (g := g) (base := base) (out := out) (H := H) (E := E) sc__law_is_name hr
  q_seq (q_if (PW.pt (q_tor (q_tnot (q_tv (w_bi xo .isi G.nb (by rfl) rfl (q_cons (q_var (pv 0)) (q_cons (w_ty xo (by rfl) G.z_str) (q_nil)))))) (pw_or1 (q_tnot (w_tchain (le_ok xo) (le_ok xo) (q_int) (w_bi xo .len G.nb (by rfl) rfl (q_cons (q_var (pv 0)) (q_nil))) (q_int)))))) (q_sone (q_ret (q_bl))) (q_snil))
    (q_sone (q_ret (q_cmp (eq_ok xo) (w_lc hands_frz (own := [("_law_sign", 1)]) xo (blkOk_by (N := ["_law_thing", "_law_sign"]) (sc := defScope s__law_is_name) (by decide +kernel)) (q_it (q_var (pv 0))) (fun _ _ _ _ _ => q_gn (pg_name (i := 1) (XO.blk (xo)).nd rfl (.inl rfl))) (fun _ _ _ _ _ => pts_one (q_tcmp (nin_ok (XO.blk (xo))) (q_var (pv 1)) (q_str))) (fun _ _ _ _ _ => q_var (pv 1))) (q_lst (q_nil)))))
abbrev s__law_is_kind : Stmt := topS 20
theorem sc__law_is_kind : FnScope ["_law_thing", "_law_words", "_law_part"] ["_law_thing", "_law_words"] (defScope s__law_is_kind) := ⟨rfl, rfl, rfl, by decide +kernel, rfl, by decide +kernel, by decide +kernel⟩
theorem p__law_is_kind (G : GF wo g) (DS : Defs P wo g base tab k) {f : Addr} (cdv : Value) (A : Around) (out : List Env) (s : Shared) (H : Hp) (E : XK) (hr : RmG k (A.deeper (envOfC "_law_is_kind" (defScope s__law_is_kind) s.heap.objs.size f cdv))) :
    PSs (bx P wo g base ["_law_thing", "_law_words", "_law_part"] "_law_is_kind" (defScope s__law_is_kind) f cdv A out s H E) (defBody s__law_is_kind) (tS g EF (b__law_is_kind (callN tab k))) :=
  have xo := bx_ok (P := P) (wo := wo) (g := g) (base := base) (out := out) (H := H) (E := E) sc__law_is_kind hr
  q_seq (q_if (q_tnot (q_tv (w_bi xo .isi G.nb (by rfl) rfl (q_cons (q_var (pv 0)) (q_cons (w_ty xo (by rfl) G.z_tuple) (q_nil)))))) (q_sone (q_ret (q_call xo rfl rfl rfl DS t__law_is_name hr (by rfl) (q_cons (q_var (pv 0)) (q_nil))))) (q_snil))
    (q_seq (q_if (PW.pt (q_tor (q_tcmp (nin_ok xo) (w_bi xo .len G.nb (by rfl) rfl (q_cons (q_var (pv 0)) (q_nil))) (q_tup (q_cons (q_int) (q_cons (q_int) (q_nil))))) (q_tor (q_tnot (q_tv (w_bi xo .isi G.nb (by rfl) rfl (q_cons (q_idx xo (q_var (pv 0)) (q_int)) (q_cons (w_ty xo (by rfl) G.z_str) (q_nil)))))) (pw_or1 (q_tcmp (nin_ok xo) (q_idx xo (q_var (pv 0)) (q_int)) (q_var (pv 1))))))) (q_sone (q_ret (q_bl))) (q_snil))
    (q_seq (q_if (q_tcmp (ne_ok xo) (w_bi xo .len G.nb (by rfl) rfl (q_cons (q_var (pv 0)) (q_nil))) (q_idx xo (q_lst (q_cons (q_int) (q_cons (q_int) (q_nil)))) (w_bi xo .int G.nb (by rfl) rfl (q_cons (q_cmp (ne_ok xo) (q_idx xo (q_var (pv 0)) (q_int)) (q_str)) (q_nil))))) (q_sone (q_ret (q_bl))) (q_snil))
    (q_sone (q_ret (q_cmp (eq_ok xo) (w_lc hands_frz (own := [("_law_part", 2)]) xo (blkOk_by (N := ["_law_thing", "_law_words", "_law_part"]) (sc := defScope s__law_is_kind) (by decide +kernel)) (q_it (q_slc xo (q_var (pv 0)) (q_some (q_int)) (q_no))) (fun _ _ _ _ _ => q_gn (pg_name (i := 2) (XO.blk (xo)).nd rfl (.inl rfl))) (fun _ _ _ _ _ => pts_one (q_tnot (q_tv (q_call (XO.blk (xo)) rfl rfl rfl DS t__law_is_kind hr (by rfl) (q_cons (q_var (pv 2)) (q_cons (q_var (pv 1)) (q_nil))))))) (fun _ _ _ _ _ => q_var (pv 2))) (q_lst (q_nil)))))))
abbrev s__law_is_form : Stmt := topS 21
theorem sc__law_is_form : FnScope ["_law_thing", "_law_part"] ["_law_thing"] (defScope s__law_is_form) := ⟨rfl, rfl, rfl, by decide +kernel, rfl, by decide +kernel, by decide +kernel⟩
theorem p__law_is_form (G : GF wo g) (DS : Defs P wo g base tab k) {f : Addr} (cdv : Value) (A : Around) (out : List Env) (s : Shared) (H : Hp) (E : XK) (hr : RmG k (A.deeper (envOfC "_law_is_form" (defScope s__law_is_form) s.heap.objs.size f cdv))) :
    PSs (bx P wo g base ["_law_thing", "_law_part"] "_law_is_form" (defScope s__law_is_form) f cdv A out s H E) (defBody s__law_is_form) (tS g EF (b__law_is_form (callN tab k))) :=
  have xo := bx_ok (P := P) (wo := wo) (g := g) (base := base) (out := out) (H := H) (E := E) sc__law_is_form hr
  q_seq (q_if (PW.pt (q_tor (q_tnot (q_tv (w_bi xo .isi G.nb (by rfl) rfl (q_cons (q_var (pv 0)) (q_cons (w_ty xo (by rfl) G.z_tuple) (q_nil)))))) (q_tor (q_tcmp (nin_ok xo) (w_bi xo .len G.nb (by rfl) rfl (q_cons (q_var (pv 0)) (q_nil))) (q_tup (q_cons (q_int) (q_cons (q_int) (q_nil))))) (pw_or1 (q_tnot (q_tv (w_bi xo .isi G.nb (by rfl) rfl (q_cons (q_idx xo (q_var (pv 0)) (q_int)) (q_cons (w_ty xo (by rfl) G.z_str) (q_nil)))))))))) (q_sone (q_ret (q_bl))) (q_snil))
    (q_seq (q_if (q_tcmp (eq_ok xo) (q_idx xo (q_var (pv 0)) (q_int)) (q_str)) (q_sone (q_ret (q_and (q_cmp (eq_ok xo) (w_bi xo .len G.nb (by rfl) rfl (q_cons (q_var (pv 0)) (q_nil))) (q_int)) (q_one (q_call xo rfl rfl rfl DS t__law_is_kind hr (by rfl) (q_cons (q_idx xo (q_var (pv 0)) (q_int)) (q_cons (q_lst (q_cons (q_str) (q_cons (q_str) (q_cons (q_str) (q_nil))))) (q_nil)))))))) (q_snil))
    (q_seq (q_if (q_tcmp (eq_ok xo) (q_idx xo (q_var (pv 0)) (q_int)) (q_str)) (q_sone (q_ret (q_and (q_cmp (eq_ok xo) (w_bi xo .len G.nb (by rfl) rfl (q_cons (q_var (pv 0)) (q_nil))) (q_int)) (q_and (q_call xo rfl rfl rfl DS t__law_is_form hr (by rfl) (q_cons (q_idx xo (q_var (pv 0)) (q_int)) (q_nil))) (q_one (q_call xo rfl rfl rfl DS t__law_is_name hr (by rfl) (q_cons (q_idx xo (q_var (pv 0)) (q_int)) (q_nil)))))))) (q_snil))
    (q_seq (q_if (PW.pt (q_tor (q_tcmp (nin_ok xo) (q_idx xo (q_var (pv 0)) (q_int)) (q_tup (q_cons (q_str) (q_cons (q_str) (q_cons (q_str) (q_nil)))))) (pw_or1 (q_tcmp (ne_ok xo) (w_bi xo .len G.nb (by rfl) rfl (q_cons (q_var (pv 0)) (q_nil))) (q_idx xo (q_lst (q_cons (q_int) (q_cons (q_int) (q_nil)))) (w_bi xo .int G.nb (by rfl) rfl (q_cons (q_cmp (ne_ok xo) (q_idx xo (q_var (pv 0)) (q_int)) (q_str)) (q_nil)))))))) (q_sone (q_ret (q_bl))) (q_snil))
    (q_seq (q_if (q_tcmp (ne_ok xo) (w_lc hands_frz (own := [("_law_part", 1)]) xo (blkOk_by (N := ["_law_thing", "_law_part"]) (sc := defScope s__law_is_form) (by decide +kernel)) (q_it (q_slc xo (q_var (pv 0)) (q_some (q_int)) (q_no))) (fun _ _ _ _ _ => q_gn (pg_name (i := 1) (XO.blk (xo)).nd rfl (.inl rfl))) (fun _ _ _ _ _ => pts_one (q_tnot (q_tv (q_call (XO.blk (xo)) rfl rfl rfl DS t__law_is_form hr (by rfl) (q_cons (q_var (pv 1)) (q_nil)))))) (fun _ _ _ _ _ => q_var (pv 1))) (q_lst (q_nil))) (q_sone (q_ret (q_bl))) (q_snil))
    (q_sone (q_ret (q_cmp (ne_ok xo) (w_lc hands_frz (own := [("_law_part", 1)]) xo (blkOk_by (N := ["_law_thing", "_law_part"]) (sc := defScope s__law_is_form) (by decide +kernel)) (q_it (q_slc xo (q_var (pv 0)) (q_some (q_int)) (q_no))) (fun _ _ _ _ _ => q_gn (pg_name (i := 1) (XO.blk (xo)).nd rfl (.inl rfl))) (fun _ _ _ _ _ => pts_one (q_tcmp (ne_ok (XO.blk (xo))) (q_idx (XO.blk (xo)) (q_var (pv 1)) (q_int)) (q_str))) (fun _ _ _ _ _ => q_var (pv 1))) (q_lst (q_nil)))))))))
abbrev s__law_odd : Stmt := topS 22
theorem sc__law_odd : FnScope ["_law_bag_here", "_law_deep", "_law_k", "_law_some"] ["_law_bag_here"] (defScope s__law_odd) := ⟨rfl, rfl, rfl, by decide +kernel, rfl, by decide +kernel, by decide +kernel⟩
theorem p__law_odd (G : GF wo g) (DS : Defs P wo g base tab k) {f : Addr} (cdv : Value) (A : Around) (out : List Env) (s : Shared) (H : Hp) (E : XK) (hr : RmG k (A.deeper (envOfC "_law_odd" (defScope s__law_odd) s.heap.objs.size f cdv))) :
    PSs (bx P wo g base ["_law_bag_here", "_law_deep", "_law_k", "_law_some"] "_law_odd" (defScope s__law_odd) f cdv A out s H E) (defBody s__law_odd) (tS g EF (b__law_odd (callN tab k))) :=
  have xo := bx_ok (P := P) (wo := wo) (g := g) (base := base) (out := out) (H := H) (E := E) sc__law_odd hr
  q_seq (w_set xo rfl (.inl rfl) (q_lst (q_nil)))
    (q_seq (w_for xo PassesOwn.never (w_rng1 xo (by rfl) G.z_range (q_cons (q_int) (q_nil))) (q_gn (pg_name (i := 2) xo.nd rfl (.inl rfl))) (q_sone (w_set xo rfl (.inl rfl) (q_lst (q_cons (q_var (pv 1)) (q_nil))))))
    (q_seq (w_set xo rfl (.inl rfl) (q_lst (q_cons (q_non) (q_cons (q_bl) (q_cons (q_bl) (q_cons (q_int) (q_cons (q_neg (q_int)) (q_cons (q_bin pow_ok (q_int) (q_int)) (q_cons (q_str) (q_cons (q_str) (q_cons (q_str) (q_cons (q_str) (q_cons (q_str) (q_cons (q_str) (q_cons (q_tup (q_nil)) (q_cons (q_lst (q_nil)) (q_cons (q_dct0) (q_cons (q_tup (q_cons (q_str) (q_nil))) (q_nil)))))))))))))))))))
    (q_seq (w_set xo rfl (.inl rfl) (q_bin add_ok (q_var (pv 3)) (q_lst (q_cons (q_lst (q_cons (q_str) (q_cons (q_str) (q_nil)))) (q_cons (q_tup (q_cons (q_str) (q_nil))) (q_cons (q_tup (q_cons (q_str) (q_cons (q_str) (q_cons (q_str) (q_nil))))) (q_cons (q_tup (q_cons (q_str) (q_cons (q_str) (q_nil)))) (q_cons (q_tup (q_cons (q_str) (q_cons (q_str) (q_nil)))) (q_cons (q_tup (q_cons (q_str) (q_nil))) (q_nil))))))))))
    (q_seq (w_set xo rfl (.inl rfl) (q_bin add_ok (q_var (pv 3)) (q_lst (q_cons (q_tup (q_cons (q_str) (q_cons (q_str) (q_cons (q_str) (q_nil))))) (q_cons (q_var (pv 1)) (q_nil))))))
    (q_seq (w_set xo rfl (.inl rfl) (q_bin add_ok (q_var (pv 3)) (q_lst (q_cons (q_tup (q_cons (q_str) (q_cons (q_lst (q_cons (q_str) (q_nil))) (q_nil)))) (q_cons (q_tup (q_cons (q_str) (q_cons (q_str) (q_nil)))) (q_cons (q_tup (q_cons (q_str) (q_cons (q_str) (q_cons (q_str) (q_nil))))) (q_cons (q_tup (q_cons (q_str) (q_cons (q_tup (q_cons (q_str) (q_cons (q_str) (q_nil)))) (q_nil)))) (q_cons (q_bin mul_ok (q_lst (q_cons (q_int) (q_nil))) (q_int)) (q_nil)))))))))
    (q_sone (q_ret (q_idx xo (q_var (pv 3)) (q_call xo rfl rfl rfl DS t__law_take hr (by rfl) (q_cons (q_var (pv 0)) (q_cons (q_int) (q_nil))))))))))))
abbrev s__law_way : Stmt := topS 23
theorem sc__law_way : FnScope ["_law_bag_here", "_law_names_here", "_law_deep", "_law_way_here"] ["_law_bag_here", "_law_names_here", "_law_deep"] (defScope s__law_way) := ⟨rfl, rfl, rfl, by decide +kernel, rfl, by decide +kernel, by decide +kernel⟩
theorem p__law_way (G : GF wo g) (DS : Defs P wo g base tab k) {f : Addr} (cdv : Value) (A : Around) (out : List Env) (s : Shared) (H : Hp) (E : XK) (hr : RmG k (A.deeper (envOfC "_law_way" (defScope s__law_way) s.heap.objs.size f cdv))) :
    PSs (bx P wo g base ["_law_bag_here", "_law_names_here", "_law_deep", "_law_way_here"] "_law_way" (defScope s__law_way) f cdv A out s H E) (defBody s__law_way) (tS g EF (b__law_way (callN tab k))) :=
  have xo := bx_ok (P := P) (wo := wo) (g := g) (base := base) (out := out) (H := H) (E := E) sc__law_way hr
  q_seq (w_set xo rfl (.inl rfl) (q_call xo rfl rfl rfl DS t__law_take hr (by rfl) (q_cons (q_var (pv 0)) (q_cons (q_int) (q_nil)))))
    (q_seq (q_if (PW.pt (q_tor (q_tcmp (eq_ok xo) (q_var (pv 2)) (q_int)) (pw_or1 (q_tcmp (eq_ok xo) (q_var (pv 3)) (q_int))))) (q_sone (q_ret (q_tup (q_cons (q_str) (q_cons (q_call xo rfl rfl rfl DS t__law_any_kind hr (by rfl) (q_cons (q_var (pv 0)) (q_cons (q_var (pv 1)) (q_cons (q_int) (q_nil))))) (q_nil)))))) (q_snil))
    (q_seq (q_if (q_tcmp (lt_ok xo) (q_var (pv 3)) (q_int)) (q_sone (q_ret (q_tup (q_cons (q_str) (q_cons (q_call xo rfl rfl rfl DS t__law_way hr (by rfl) (q_cons (q_var (pv 0)) (q_cons (q_var (pv 1)) (q_cons (q_bin sub_ok (q_var (pv 2)) (q_int)) (q_nil))))) (q_cons (q_call xo rfl rfl rfl DS t__law_one hr (by rfl) (q_cons (q_var (pv 0)) (q_cons (q_var (pv 1)) (q_nil)))) (q_nil))))))) (q_snil))
    (q_seq (q_if (q_tcmp (eq_ok xo) (q_var (pv 3)) (q_int)) (q_sone (q_ret (q_tup (q_cons (q_str) (q_cons (q_call xo rfl rfl rfl DS t__law_way hr (by rfl) (q_cons (q_var (pv 0)) (q_cons (q_var (pv 1)) (q_cons (q_bin sub_ok (q_var (pv 2)) (q_int)) (q_nil))))) (q_nil)))))) (q_snil))
    (q_sone (q_ret (q_tup (q_cons (q_idx xo (q_lst (q_cons (q_str) (q_cons (q_str) (q_nil)))) (q_bin sub_ok (q_var (pv 3)) (q_int))) (q_cons (q_call xo rfl rfl rfl DS t__law_way hr (by rfl) (q_cons (q_var (pv 0)) (q_cons (q_var (pv 1)) (q_cons (q_bin sub_ok (q_var (pv 2)) (q_int)) (q_nil))))) (q_cons (q_call xo rfl rfl rfl DS t__law_way hr (by rfl) (q_cons (q_var (pv 0)) (q_cons (q_var (pv 1)) (q_cons (q_bin sub_ok (q_var (pv 2)) (q_int)) (q_nil))))) (q_nil))))))))))
abbrev s__law_bent : Stmt := topS 24
theorem sc__law_bent : FnScope ["_law_bag_here", "_law_thing", "_law_at", "_law_way_here"] ["_law_bag_here", "_law_thing"] (defScope s__law_bent) := ⟨rfl, rfl, rfl, by decide +kernel, rfl, by decide +kernel, by decide +kernel⟩
theorem p__law_bent (G : GF wo g) (DS : Defs P wo g base tab k) {f : Addr} (cdv : Value) (A : Around) (out : List Env) (s : Shared) (H : Hp) (E : XK) (hr : RmG k (A.deeper (envOfC "_law_bent" (defScope s__law_bent) s.heap.objs.size f cdv))) :
    PSs (bx P wo g base ["_law_bag_here", "_law_thing", "_law_at", "_law_way_here"] "_law_bent" (defScope s__law_bent) f cdv A out s H E) (defBody s__law_bent) (tS g EF (b__law_bent (callN tab k))) :=
  have xo := bx_ok (P := P) (wo := wo) (g := g) (base := base) (out := out) (H := H) (E := E) sc__law_bent hr
  q_seq (q_if (PW.pt (q_tor (q_tnot (q_tv (w_bi xo .isi G.nb (by rfl) rfl (q_cons (q_var (pv 1)) (q_cons (w_ty xo (by rfl) G.z_tuple) (q_nil)))))) (q_tor (q_tcmp (eq_ok xo) (q_var (pv 1)) (q_tup (q_nil))) (pw_or1 (q_tcmp (eq_ok xo) (q_call xo rfl rfl rfl DS t__law_take hr (by rfl) (q_cons (q_var (pv 0)) (q_cons (q_int) (q_nil)))) (q_int)))))) (q_sone (q_ret (q_call xo rfl rfl rfl DS t__law_odd hr (by rfl) (q_cons (q_var (pv 0)) (q_nil))))) (q_snil))
    (q_seq (w_par xo rfl rfl (by decide) rfl rfl (q_cons (q_call xo rfl rfl rfl DS t__law_take hr (by rfl) (q_cons (q_var (pv 0)) (q_cons (w_bi xo .len G.nb (by rfl) rfl (q_cons (q_var (pv 1)) (q_nil))) (q_nil)))) (q_cons (q_call xo rfl rfl rfl DS t__law_take hr (by rfl) (q_cons (q_var (pv 0)) (q_cons (q_int) (q_nil)))) (q_nil))) rfl)
    (q_seq (q_if (q_tcmp (eq_ok xo) (q_var (pv 3)) (q_int)) (q_sone (q_ret (q_bin add_ok (q_var (pv 1)) (q_tup (q_cons (q_idx xo (q_var (pv 1)) (q_var (pv 2))) (q_nil)))))) (q_snil))
    (q_seq (q_if (q_tcmp (eq_ok xo) (q_var (pv 3)) (q_int)) (q_sone (q_ret (q_bin add_ok (q_slc xo (q_var (pv 1)) (q_no) (q_some (q_var (pv 2)))) (q_slc xo (q_var (pv 1)) (q_some (q_bin add_ok (q_var (pv 2)) (q_int))) (q_no))))) (q_snil))
    (q_seq (q_if (q_tcmp (eq_ok xo) (q_var (pv 3)) (q_int)) (q_sone (q_ret (w_bi xo .list G.nb (by rfl) rfl (q_cons (q_var (pv 1)) (q_nil))))) (q_snil))
    (q_sone (q_ret (q_bin add_ok (q_bin add_ok (q_slc xo (q_var (pv 1)) (q_no) (q_some (q_var (pv 2)))) (q_tup (q_cons (q_call xo rfl rfl rfl DS t__law_bent hr (by rfl) (q_cons (q_var (pv 0)) (q_cons (q_idx xo (q_var (pv 1)) (q_var (pv 2))) (q_nil)))) (q_nil)))) (q_slc xo (q_var (pv 1)) (q_some (q_bin add_ok (q_var (pv 2)) (q_int))) (q_no)))))))))
abbrev s__law_great : Stmt := topS 25
theorem sc__law_great : FnScope ["_law_bag_here", "_law_thing", "_law_k"] ["_law_bag_here", "_law_thing"] (defScope s__law_great) := ⟨rfl, rfl, rfl, by decide +kernel, rfl, by decide +kernel, by decide +kernel⟩
theorem p__law_great (G : GF wo g) (DS : Defs P wo g base tab k) {f : Addr} (cdv : Value) (A : Around) (out : List Env) (s : Shared) (H : Hp) (E : XK) (hr : RmG k (A.deeper (envOfC "_law_great" (defScope s__law_great) s.heap.objs.size f cdv))) :
    PSs (bx P wo g base ["_law_bag_here", "_law_thing", "_law_k"] "_law_great" (defScope s__law_great) f cdv A out s H E) (defBody s__law_great) (tS g EF (b__law_great (callN tab k))) :=
  have xo := bx_ok (P := P) (wo := wo) (g := g) (base := base) (out := out) (H := H) (E := E) sc__law_great hr
  q_seq (w_for xo PassesOwn.never (w_rng1 xo (by rfl) G.z_range (q_cons (q_call xo rfl rfl rfl DS t__law_take hr (by rfl) (q_cons (q_var (pv 0)) (q_cons (q_int) (q_nil)))) (q_nil))) (q_gn (pg_name (i := 2) xo.nd rfl (.inl rfl))) (q_sone (w_set xo rfl (.inl rfl) (q_tup (q_cons (q_str) (q_cons (q_var (pv 1)) (q_cons (q_var (pv 1)) (q_nil))))))))
    (q_seq (w_for xo PassesOwn.never (w_rng1 xo (by rfl) G.z_range (q_cons (q_call xo rfl rfl rfl DS t__law_take hr (by rfl) (q_cons (q_var (pv 0)) (q_cons (q_int) (q_nil)))) (q_nil))) (q_gn (pg_name (i := 2) xo.nd rfl (.inl rfl))) (q_sone (w_set xo rfl (.inl rfl) (q_tup (q_cons (q_str) (q_cons (q_var (pv 1)) (q_nil)))))))
    (q_sone (q_ret (q_ife (q_tcmp (eq_ok xo) (q_call xo rfl rfl rfl DS t__law_take hr (by rfl) (q_cons (q_var (pv 0)) (q_cons (q_int) (q_nil)))) (q_int)) (q_tup (q_cons (q_str) (q_cons (q_var (pv 1)) (q_nil)))) (q_var (pv 1))))))
abbrev s_law : Stmt := topS 26
theorem sc_law : FnScope ["_law_script", "_law_bag_here", "_law_turn", "_law_names_here", "_law_thing", "_law_way_here", "_law_due", "_law_again", "_law_kept", "_law_every", "_law_found", "_law_at"] ["_law_script"] (defScope s_law) := ⟨rfl, rfl, rfl, by decide +kernel, rfl, by decide +kernel, by decide +kernel⟩
theorem p_law (G : GF wo g) (DS : Defs P wo g base tab k) {f : Addr} (cdv : Value) (A : Around) (out : List Env) (s : Shared) (H : Hp) (E : XK) (hr : RmG k (A.deeper (envOfC "law" (defScope s_law) s.heap.objs.size f cdv))) :
    PSs (bx P wo g base ["_law_script", "_law_bag_here", "_law_turn", "_law_names_here", "_law_thing", "_law_way_here", "_law_due", "_law_again", "_law_kept", "_law_every", "_law_found", "_law_at"] "law" (defScope s_law) f cdv A out s H E) (defBody s_law) (tS g EF (b_law (callN tab k))) :=
  have xo := bx_ok (P := P) (wo := wo) (g := g) (base := base) (out := out) (H := H) (E := E) sc_law hr
  q_seq (w_set xo rfl (.inl rfl) (q_call xo rfl rfl rfl DS t__law_bag hr (by rfl) (q_cons (q_var (pv 0)) (q_nil))))
    (q_seq (w_for xo PassesOwn.never (w_rng1 xo (by rfl) G.z_range (q_cons (q_int) (q_nil))) (q_gn (pg_name (i := 2) xo.nd rfl (.inl rfl))) (q_seq (w_set xo rfl (.inl rfl) (q_call xo rfl rfl rfl DS t__law_names hr (by rfl) (q_cons (q_var (pv 1)) (q_cons (q_int) (q_nil)))))
    (q_seq (w_set xo rfl (.inl rfl) (q_ife (q_tcmp (eq_ok xo) (q_call xo rfl rfl rfl DS t__law_take hr (by rfl) (q_cons (q_var (pv 1)) (q_cons (q_int) (q_nil)))) (q_int)) (q_call xo rfl rfl rfl DS t__law_any_kind hr (by rfl) (q_cons (q_var (pv 1)) (q_cons (q_var (pv 3)) (q_cons (q_int) (q_nil))))) (q_call xo rfl rfl rfl DS t__law_way hr (by rfl) (q_cons (q_var (pv 1)) (q_cons (q_var (pv 3)) (q_cons (q_int) (q_nil)))))))
    (q_seq (w_set xo rfl (.inl rfl) (q_call xo rfl rfl rfl DS t__law_take hr (by rfl) (q_cons (q_var (pv 1)) (q_cons (q_int) (q_nil)))))
    (q_seq (q_if (q_tcmp (eq_ok xo) (q_var (pv 5)) (q_int)) (q_sone (w_set xo rfl (.inl rfl) (q_call xo rfl rfl rfl DS t__law_great hr (by rfl) (q_cons (q_var (pv 1)) (q_cons (q_call xo rfl rfl rfl DS t__law_any_kind hr (by rfl) (q_cons (q_var (pv 1)) (q_cons (q_var (pv 3)) (q_cons (q_int) (q_nil))))) (q_nil)))))) (q_sone (q_if (q_tcmp (eq_ok xo) (q_var (pv 5)) (q_int)) (q_seq (w_par xo rfl rfl (by decide) rfl rfl (q_cons (q_call xo rfl rfl rfl DS t__law_one hr (by rfl) (q_cons (q_var (pv 1)) (q_cons (q_var (pv 3)) (q_nil)))) (q_cons (q_call xo rfl rfl rfl DS t__law_take hr (by rfl) (q_cons (q_var (pv 1)) (q_cons (q_int) (q_nil)))) (q_nil))) rfl)
    (q_sone (w_set xo rfl (.inl rfl) (q_bin add_ok (q_bin add_ok (q_slc xo (q_var (pv 4)) (q_no) (q_some (q_var (pv 11)))) (q_call xo rfl rfl rfl DS t__law_one hr (by rfl) (q_cons (q_var (pv 1)) (q_cons (q_str) (q_nil))))) (q_slc xo (q_var (pv 4)) (q_some (q_var (pv 11))) (q_no)))))) (q_sone (q_if (q_tcmp (lt_ok xo) (q_var (pv 5)) (q_int)) (q_sone (w_set xo rfl (.inl rfl) (q_call xo rfl rfl rfl DS t__law_bent hr (by rfl) (q_cons (q_var (pv 1)) (q_cons (q_var (pv 4)) (q_nil)))))) (q_snil))))))
    (q_seq (w_par xo rfl rfl (by decide) rfl rfl (q_cons (w_bi xo .repr G.nb (by rfl) rfl (q_cons (q_var (pv 4)) (q_nil))) (q_cons (q_lst (q_cons (q_str) (q_cons (q_str) (q_cons (q_str) (q_nil))))) (q_nil))) rfl)
    (q_seq (w_set xo rfl (.inl rfl) (q_lst (q_cons (q_and (w_bi xo .isi G.nb (by rfl) rfl (q_cons (q_var (pv 4)) (q_cons (w_ty xo (by rfl) G.z_int) (q_nil)))) (q_one (q_not (w_bi xo .isi G.nb (by rfl) rfl (q_cons (q_var (pv 4)) (q_cons (w_ty xo (by rfl) G.z_bool) (q_nil))))))) (q_cons (q_call xo rfl rfl rfl DS t__law_is_name hr (by rfl) (q_cons (q_var (pv 4)) (q_nil))) (q_nil)))))
    (q_seq (w_set xo rfl (.inl rfl) (q_bin add_ok (q_var (pv 6)) (q_lst (q_cons (q_call xo rfl rfl rfl DS t__law_is_kind hr (by rfl) (q_cons (q_var (pv 4)) (q_cons (q_var (pv 9)) (q_nil)))) (q_cons (q_call xo rfl rfl rfl DS t__law_is_kind hr (by rfl) (q_cons (q_var (pv 4)) (q_cons (q_lst (q_cons (q_str) (q_cons (q_str) (q_nil)))) (q_nil)))) (q_cons (q_call xo rfl rfl rfl DS t__law_is_form hr (by rfl) (q_cons (q_var (pv 4)) (q_nil))) (q_nil)))))))
    (q_sone (w_for xo PassesOwn.never (w_rng1 xo (by rfl) G.z_range (q_cons (q_int) (q_nil))) (q_gn (pg_name (i := 7) xo.nd rfl (.inl rfl))) (q_seq (w_set xo rfl (.inl rfl) (q_lst (q_cons (q_call xo rfl rfl rfl DS t_is_integer hr (by rfl) (q_cons (q_var (pv 4)) (q_nil))) (q_cons (q_call xo rfl rfl rfl DS t_is_name hr (by rfl) (q_cons (q_var (pv 4)) (q_nil))) (q_cons (q_call xo rfl rfl rfl DS t_is_kind hr (by rfl) (q_cons (q_var (pv 4)) (q_nil))) (q_cons (q_call xo rfl rfl rfl DS t_is_plain hr (by rfl) (q_cons (q_var (pv 4)) (q_nil))) (q_cons (q_call xo rfl rfl rfl DS t_is_form hr (by rfl) (q_cons (q_var (pv 4)) (q_nil))) (q_nil))))))))
    (q_sone (q_if (PW.pt (q_tor (q_tnot (q_tv (q_call xo rfl rfl rfl DS t__law_alike hr (by rfl) (q_cons (q_var (pv 10)) (q_cons (q_var (pv 6)) (q_nil)))))) (pw_or1 (q_tcmp (ne_ok xo) (w_bi xo .repr G.nb (by rfl) rfl (q_cons (q_var (pv 4)) (q_nil))) (q_var (pv 8)))))) (q_sone (q_ret (q_bl))) (q_snil))))))))))))))
    (q_sone (q_ret (q_bl))))
end
end K11
namespace K11
open PySem PySem.Spec PyProof.Rows L2 Ax
section
variable {P : Program} {wo : World} {g : Gx} {base : Heap}
theorem r_is_integer (G : GF wo g) {f : Addr} {fdat : FuncData} (F : Fun g.K "is_integer" "is_integer" s_is_integer f fdat) (hm : g.mg "is_integer" = some (.ref f)) : Row P wo g base tab "is_integer" fd_is_integer :=
  ⟨f, fdat, ["thing"], hm, F.kp, F.binds (ps := ["thing"]) (fun _ _ _ _ _ _ us hl => match us, hl with | [_], _ => rfl), rfl, fun k DS => fnG_of F sc_is_integer rfl rfl (fun cdv A out s H E hr => p_is_integer G DS cdv A out s H E hr) t_is_integer⟩
theorem r_is_name (G : GF wo g) {f : Addr} {fdat : FuncData} (F : Fun g.K "is_name" "is_name" s_is_name f fdat) (hm : g.mg "is_name" = some (.ref f)) : Row P wo g base tab "is_name" fd_is_name :=
  ⟨f, fdat, ["thing"], hm, F.kp, F.binds (ps := ["thing"]) (fun _ _ _ _ _ _ us hl => match us, hl with | [_], _ => rfl), rfl, fun k DS => fnG_of F sc_is_name rfl rfl (fun cdv A out s H E hr => p_is_name G DS cdv A out s H E hr) t_is_name⟩
theorem r_is_word (G : GF wo g) {f : Addr} {fdat : FuncData} (F : Fun g.K "is_word" "is_word" s_is_word f fdat) (hm : g.mg "is_word" = some (.ref f)) : Row P wo g base tab "is_word" fd_is_word :=
  ⟨f, fdat, ["thing"], hm, F.kp, F.binds (ps := ["thing"]) (fun _ _ _ _ _ _ us hl => match us, hl with | [_], _ => rfl), rfl, fun k DS => fnG_of F sc_is_word rfl rfl (fun cdv A out s H E hr => p_is_word G DS cdv A out s H E hr) t_is_word⟩
theorem r_is_kind (G : GF wo g) {f : Addr} {fdat : FuncData} (F : Fun g.K "is_kind" "is_kind" s_is_kind f fdat) (hm : g.mg "is_kind" = some (.ref f)) : Row P wo g base tab "is_kind" fd_is_kind :=
  ⟨f, fdat, ["thing"], hm, F.kp, F.binds (ps := ["thing"]) (fun _ _ _ _ _ _ us hl => match us, hl with | [_], _ => rfl), rfl, fun k DS => fnG_of F sc_is_kind rfl rfl (fun cdv A out s H E hr => p_is_kind G DS cdv A out s H E hr) t_is_kind⟩
theorem r_parts (G : GF wo g) {f : Addr} {fdat : FuncData} (F : Fun g.K "parts" "parts" s_parts f fdat) (hm : g.mg "parts" = some (.ref f)) : Row P wo g base tab "parts" fd_parts :=
  ⟨f, fdat, ["kind"], hm, F.kp, F.binds (ps := ["kind"]) (fun _ _ _ _ _ _ us hl => match us, hl with | [_], _ => rfl), rfl, fun k DS => fnG_of F sc_parts rfl rfl (fun cdv A out s H E hr => p_parts G DS cdv A out s H E hr) t_parts⟩
theorem r_has_functions (G : GF wo g) {f : Addr} {fdat : FuncData} (F : Fun g.K "has_functions" "has_functions" s_has_functions f fdat) (hm : g.mg "has_functions" = some (.ref f)) : Row P wo g base tab "has_functions" fd_has_functions :=
  ⟨f, fdat, ["kind"], hm, F.kp, F.binds (ps := ["kind"]) (fun _ _ _ _ _ _ us hl => match us, hl with | [_], _ => rfl), rfl, fun k DS => fnG_of F sc_has_functions rfl rfl (fun cdv A out s H E hr => p_has_functions G DS cdv A out s H E hr) t_has_functions⟩
theorem r_is_plain (G : GF wo g) {f : Addr} {fdat : FuncData} (F : Fun g.K "is_plain" "is_plain" s_is_plain f fdat) (hm : g.mg "is_plain" = some (.ref f)) : Row P wo g base tab "is_plain" fd_is_plain :=
  ⟨f, fdat, ["thing"], hm, F.kp, F.binds (ps := ["thing"]) (fun _ _ _ _ _ _ us hl => match us, hl with | [_], _ => rfl), rfl, fun k DS => fnG_of F sc_is_plain rfl rfl (fun cdv A out s H E hr => p_is_plain G DS cdv A out s H E hr) t_is_plain⟩
theorem r_is_form (G : GF wo g) {f : Addr} {fdat : FuncData} (F : Fun g.K "is_form" "is_form" s_is_form f fdat) (hm : g.mg "is_form" = some (.ref f)) : Row P wo g base tab "is_form" fd_is_form :=
  ⟨f, fdat, ["thing"], hm, F.kp, F.binds (ps := ["thing"]) (fun _ _ _ _ _ _ us hl => match us, hl with | [_], _ => rfl), rfl, fun k DS => fnG_of F sc_is_form rfl rfl (fun cdv A out s H E hr => p_is_form G DS cdv A out s H E hr) t_is_form⟩
theorem r__law_bag (G : GF wo g) {f : Addr} {fdat : FuncData} (F : Fun g.K "_law_bag" "_law_bag" s__law_bag f fdat) (hm : g.mg "_law_bag" = some (.ref f)) : Row P wo g base tab "_law_bag" fd__law_bag :=
  ⟨f, fdat, ["_law_script"], hm, F.kp, F.binds (ps := ["_law_script"]) (fun _ _ _ _ _ _ us hl => match us, hl with | [_], _ => rfl), rfl, fun k DS => fnG_of F sc__law_bag rfl rfl (fun cdv A out s H E hr => p__law_bag G DS cdv A out s H E hr) t__law_bag⟩
theorem r__law_take (G : GF wo g) {f : Addr} {fdat : FuncData} (F : Fun g.K "_law_take" "_law_take" s__law_take f fdat) (hm : g.mg "_law_take" = some (.ref f)) : Row P wo g base tab "_law_take" fd__law_take :=
  ⟨f, fdat, ["_law_bag_here", "_law_many"], hm, F.kp, F.binds (ps := ["_law_bag_here", "_law_many"]) (fun _ _ _ _ _ _ us hl => match us, hl with | [_, _], _ => rfl), rfl, fun k DS => fnG_of F sc__law_take rfl rfl (fun cdv A out s H E hr => p__law_take G DS cdv A out s H E hr) t__law_take⟩
theorem r__law_alike (G : GF wo g) {f : Addr} {fdat : FuncData} (F : Fun g.K "_law_alike" "_law_alike" s__law_alike f fdat) (hm : g.mg "_law_alike" = some (.ref f)) : Row P wo g base tab "_law_alike" fd__law_alike :=
  ⟨f, fdat, ["_law_found", "_law_due"], hm, F.kp, F.binds (ps := ["_law_found", "_law_due"]) (fun _ _ _ _ _ _ us hl => match us, hl with | [_, _], _ => rfl), rfl, fun k DS => fnG_of F sc__law_alike rfl rfl (fun cdv A out s H E hr => p__law_alike G DS cdv A out s H E hr) t__law_alike⟩
theorem r__law_one (G : GF wo g) {f : Addr} {fdat : FuncData} (F : Fun g.K "_law_one" "_law_one" s__law_one f fdat) (hm : g.mg "_law_one" = some (.ref f)) : Row P wo g base tab "_law_one" fd__law_one :=
  ⟨f, fdat, ["_law_bag_here", "_law_things"], hm, F.kp, F.binds (ps := ["_law_bag_here", "_law_things"]) (fun _ _ _ _ _ _ us hl => match us, hl with | [_, _], _ => rfl), rfl, fun k DS => fnG_of F sc__law_one rfl rfl (fun cdv A out s H E hr => p__law_one G DS cdv A out s H E hr) t__law_one⟩
theorem r__law_names (G : GF wo g) {f : Addr} {fdat : FuncData} (F : Fun g.K "_law_names" "_law_names" s__law_names f fdat) (hm : g.mg "_law_names" = some (.ref f)) : Row P wo g base tab "_law_names" fd__law_names :=
  ⟨f, fdat, ["_law_bag_here", "_law_many"], hm, F.kp, F.binds (ps := ["_law_bag_here", "_law_many"]) (fun _ _ _ _ _ _ us hl => match us, hl with | [_, _], _ => rfl), rfl, fun k DS => fnG_of F sc__law_names rfl rfl (fun cdv A out s H E hr => p__law_names G DS cdv A out s H E hr) t__law_names⟩
theorem r__law_any_kind (G : GF wo g) {f : Addr} {fdat : FuncData} (F : Fun g.K "_law_any_kind" "_law_any_kind" s__law_any_kind f fdat) (hm : g.mg "_law_any_kind" = some (.ref f)) : Row P wo g base tab "_law_any_kind" fd__law_any_kind :=
  ⟨f, fdat, ["_law_bag_here", "_law_names_here", "_law_upto"], hm, F.kp, F.binds (ps := ["_law_bag_here", "_law_names_here", "_law_upto"]) (fun _ _ _ _ _ _ us hl => match us, hl with | [_, _, _], _ => rfl), rfl, fun k DS => fnG_of F sc__law_any_kind rfl rfl (fun cdv A out s H E hr => p__law_any_kind G DS cdv A out s H E hr) t__law_any_kind⟩
theorem r__law_is_name (G : GF wo g) {f : Addr} {fdat : FuncData} (F : Fun g.K "_law_is_name" "_law_is_name" s__law_is_name f fdat) (hm : g.mg "_law_is_name" = some (.ref f)) : Row P wo g base tab "_law_is_name" fd__law_is_name :=
  ⟨f, fdat, ["_law_thing"], hm, F.kp, F.binds (ps := ["_law_thing"]) (fun _ _ _ _ _ _ us hl => match us, hl with | [_], _ => rfl), rfl, fun k DS => fnG_of F sc__law_is_name rfl rfl (fun cdv A out s H E hr => p__law_is_name G DS cdv A out s H E hr) t__law_is_name⟩
theorem r__law_is_kind (G : GF wo g) {f : Addr} {fdat : FuncData} (F : Fun g.K "_law_is_kind" "_law_is_kind" s__law_is_kind f fdat) (hm : g.mg "_law_is_kind" = some (.ref f)) : Row P wo g base tab "_law_is_kind" fd__law_is_kind :=
  ⟨f, fdat, ["_law_thing", "_law_words"], hm, F.kp, F.binds (ps := ["_law_thing", "_law_words"]) (fun _ _ _ _ _ _ us hl => match us, hl with | [_, _], _ => rfl), rfl, fun k DS => fnG_of F sc__law_is_kind rfl rfl (fun cdv A out s H E hr => p__law_is_kind G DS cdv A out s H E hr) t__law_is_kind⟩
theorem r__law_is_form (G : GF wo g) {f : Addr} {fdat : FuncData} (F : Fun g.K "_law_is_form" "_law_is_form" s__law_is_form f fdat) (hm : g.mg "_law_is_form" = some (.ref f)) : Row P wo g base tab "_law_is_form" fd__law_is_form :=
  ⟨f, fdat, ["_law_thing"], hm, F.kp, F.binds (ps := ["_law_thing"]) (fun _ _ _ _ _ _ us hl => match us, hl with | [_], _ => rfl), rfl, fun k DS => fnG_of F sc__law_is_form rfl rfl (fun cdv A out s H E hr => p__law_is_form G DS cdv A out s H E hr) t__law_is_form⟩
theorem r__law_odd (G : GF wo g) {f : Addr} {fdat : FuncData} (F : Fun g.K "_law_odd" "_law_odd" s__law_odd f fdat) (hm : g.mg "_law_odd" = some (.ref f)) : Row P wo g base tab "_law_odd" fd__law_odd :=
  ⟨f, fdat, ["_law_bag_here"], hm, F.kp, F.binds (ps := ["_law_bag_here"]) (fun _ _ _ _ _ _ us hl => match us, hl with | [_], _ => rfl), rfl, fun k DS => fnG_of F sc__law_odd rfl rfl (fun cdv A out s H E hr => p__law_odd G DS cdv A out s H E hr) t__law_odd⟩
theorem r__law_way (G : GF wo g) {f : Addr} {fdat : FuncData} (F : Fun g.K "_law_way" "_law_way" s__law_way f fdat) (hm : g.mg "_law_way" = some (.ref f)) : Row P wo g base tab "_law_way" fd__law_way :=
  ⟨f, fdat, ["_law_bag_here", "_law_names_here", "_law_deep"], hm, F.kp, F.binds (ps := ["_law_bag_here", "_law_names_here", "_law_deep"]) (fun _ _ _ _ _ _ us hl => match us, hl with | [_, _, _], _ => rfl), rfl, fun k DS => fnG_of F sc__law_way rfl rfl (fun cdv A out s H E hr => p__law_way G DS cdv A out s H E hr) t__law_way⟩
theorem r__law_bent (G : GF wo g) {f : Addr} {fdat : FuncData} (F : Fun g.K "_law_bent" "_law_bent" s__law_bent f fdat) (hm : g.mg "_law_bent" = some (.ref f)) : Row P wo g base tab "_law_bent" fd__law_bent :=
  ⟨f, fdat, ["_law_bag_here", "_law_thing"], hm, F.kp, F.binds (ps := ["_law_bag_here", "_law_thing"]) (fun _ _ _ _ _ _ us hl => match us, hl with | [_, _], _ => rfl), rfl, fun k DS => fnG_of F sc__law_bent rfl rfl (fun cdv A out s H E hr => p__law_bent G DS cdv A out s H E hr) t__law_bent⟩
theorem r__law_great (G : GF wo g) {f : Addr} {fdat : FuncData} (F : Fun g.K "_law_great" "_law_great" s__law_great f fdat) (hm : g.mg "_law_great" = some (.ref f)) : Row P wo g base tab "_law_great" fd__law_great :=
  ⟨f, fdat, ["_law_bag_here", "_law_thing"], hm, F.kp, F.binds (ps := ["_law_bag_here", "_law_thing"]) (fun _ _ _ _ _ _ us hl => match us, hl with | [_, _], _ => rfl), rfl, fun k DS => fnG_of F sc__law_great rfl rfl (fun cdv A out s H E hr => p__law_great G DS cdv A out s H E hr) t__law_great⟩
theorem r_law (G : GF wo g) {f : Addr} {fdat : FuncData} (F : Fun g.K "law" "law" s_law f fdat) (hm : g.mg "law" = some (.ref f)) : Row P wo g base tab "law" fd_law :=
  ⟨f, fdat, ["_law_script"], hm, F.kp, F.binds (ps := ["_law_script"]) (fun _ _ _ _ _ _ us hl => match us, hl with | [_], _ => rfl), rfl, fun k DS => fnG_of F sc_law rfl rfl (fun cdv A out s H E hr => p_law G DS cdv A out s H E hr) t_law⟩
end
structure FF (K : PySem.W.Frag) (x : Str) (st : Stmt) : Prop where
  ex : ∃ (f : Addr) (fdat : FuncData), PySem.W.nsIn K mainGlobals x = some (some (.ref f)) ∧ Fun K x x st f fdat
theorem ff_mk {K : PySem.W.Frag} {x : Str} {st : Stmt} {f : Addr} {oc : Value} {od an : Option Addr} {osl : Array (Option Value)} {kV doc pm cdv ct : Value} (a : PySem.W.nsIn K mainGlobals x = some (some (.ref f))) (l : K.lookup f = some ⟨oc, od, .func (PySem.W.fnOf x x (defArgs st) (defBody st) (defScope st) .none kV doc pm an cdv ct), osl⟩)
    (c : PySem.W.codeIn K cdv x = true) (k : PySem.W.keepIn K (.ref f) = true) : FF K x st := ⟨f, _, a, fun_mk l c k⟩
theorem row_if {P : Program} {wo : World} {g : Gx} {base : Heap} {n x : Str} {fd0 fd : Fd} {r : Option Fd} (h : Row P wo g base tab n fd0) (hr : r = some fd → Row P wo g base tab x fd) (e : (if x = n then some fd0 else r) = some fd) : Row P wo g base tab x fd := by
  by_cases q : x = n
  · rw [if_pos q] at e; rw [q, ← Option.some.inj e]; exact h
  · rw [if_neg q] at e; exact hr e
theorem rows {P : Program} {wo : World} {g : Gx} {base h : Heap} (G : GF wo g) (X : g.K.In h) (N : h.Ns mainGlobals g.mg)
    (h_is_integer : FF g.K "is_integer" s_is_integer)
    (h_is_name : FF g.K "is_name" s_is_name)
    (h_is_word : FF g.K "is_word" s_is_word)
    (h_is_kind : FF g.K "is_kind" s_is_kind)
    (h_parts : FF g.K "parts" s_parts)
    (h_has_functions : FF g.K "has_functions" s_has_functions)
    (h_is_plain : FF g.K "is_plain" s_is_plain)
    (h_is_form : FF g.K "is_form" s_is_form)
    (h__law_bag : FF g.K "_law_bag" s__law_bag)
    (h__law_take : FF g.K "_law_take" s__law_take)
    (h__law_alike : FF g.K "_law_alike" s__law_alike)
    (h__law_one : FF g.K "_law_one" s__law_one)
    (h__law_names : FF g.K "_law_names" s__law_names)
    (h__law_any_kind : FF g.K "_law_any_kind" s__law_any_kind)
    (h__law_is_name : FF g.K "_law_is_name" s__law_is_name)
    (h__law_is_kind : FF g.K "_law_is_kind" s__law_is_kind)
    (h__law_is_form : FF g.K "_law_is_form" s__law_is_form)
    (h__law_odd : FF g.K "_law_odd" s__law_odd)
    (h__law_way : FF g.K "_law_way" s__law_way)
    (h__law_bent : FF g.K "_law_bent" s__law_bent)
    (h__law_great : FF g.K "_law_great" s__law_great)
    (h_law : FF g.K "law" s_law)
    : ∀ x fd, tab x = some fd → Row P wo g base tab x fd := by
  have q_is_integer : Row P wo g base tab "is_integer" fd_is_integer := by obtain ⟨f, fdat, a, F⟩ := h_is_integer.ex; exact r_is_integer G F (PySem.W.mg_of X N a)
  have q_is_name : Row P wo g base tab "is_name" fd_is_name := by obtain ⟨f, fdat, a, F⟩ := h_is_name.ex; exact r_is_name G F (PySem.W.mg_of X N a)
  have q_is_word : Row P wo g base tab "is_word" fd_is_word := by obtain ⟨f, fdat, a, F⟩ := h_is_word.ex; exact r_is_word G F (PySem.W.mg_of X N a)
  have q_is_kind : Row P wo g base tab "is_kind" fd_is_kind := by obtain ⟨f, fdat, a, F⟩ := h_is_kind.ex; exact r_is_kind G F (PySem.W.mg_of X N a)
  have q_parts : Row P wo g base tab "parts" fd_parts := by obtain ⟨f, fdat, a, F⟩ := h_parts.ex; exact r_parts G F (PySem.W.mg_of X N a)
  have q_has_functions : Row P wo g base tab "has_functions" fd_has_functions := by obtain ⟨f, fdat, a, F⟩ := h_has_functions.ex; exact r_has_functions G F (PySem.W.mg_of X N a)
  have q_is_plain : Row P wo g base tab "is_plain" fd_is_plain := by obtain ⟨f, fdat, a, F⟩ := h_is_plain.ex; exact r_is_plain G F (PySem.W.mg_of X N a)
  have q_is_form : Row P wo g base tab "is_form" fd_is_form := by obtain ⟨f, fdat, a, F⟩ := h_is_form.ex; exact r_is_form G F (PySem.W.mg_of X N a)
  have q__law_bag : Row P wo g base tab "_law_bag" fd__law_bag := by obtain ⟨f, fdat, a, F⟩ := h__law_bag.ex; exact r__law_bag G F (PySem.W.mg_of X N a)
  have q__law_take : Row P wo g base tab "_law_take" fd__law_take := by obtain ⟨f, fdat, a, F⟩ := h__law_take.ex; exact r__law_take G F (PySem.W.mg_of X N a)
  have q__law_alike : Row P wo g base tab "_law_alike" fd__law_alike := by obtain ⟨f, fdat, a, F⟩ := h__law_alike.ex; exact r__law_alike G F (PySem.W.mg_of X N a)
  have q__law_one : Row P wo g base tab "_law_one" fd__law_one := by obtain ⟨f, fdat, a, F⟩ := h__law_one.ex; exact r__law_one G F (PySem.W.mg_of X N a)
  have q__law_names : Row P wo g base tab "_law_names" fd__law_names := by obtain ⟨f, fdat, a, F⟩ := h__law_names.ex; exact r__law_names G F (PySem.W.mg_of X N a)
  have q__law_any_kind : Row P wo g base tab "_law_any_kind" fd__law_any_kind := by obtain ⟨f, fdat, a, F⟩ := h__law_any_kind.ex; exact r__law_any_kind G F (PySem.W.mg_of X N a)
  have q__law_is_name : Row P wo g base tab "_law_is_name" fd__law_is_name := by obtain ⟨f, fdat, a, F⟩ := h__law_is_name.ex; exact r__law_is_name G F (PySem.W.mg_of X N a)
  have q__law_is_kind : Row P wo g base tab "_law_is_kind" fd__law_is_kind := by obtain ⟨f, fdat, a, F⟩ := h__law_is_kind.ex; exact r__law_is_kind G F (PySem.W.mg_of X N a)
  have q__law_is_form : Row P wo g base tab "_law_is_form" fd__law_is_form := by obtain ⟨f, fdat, a, F⟩ := h__law_is_form.ex; exact r__law_is_form G F (PySem.W.mg_of X N a)
  have q__law_odd : Row P wo g base tab "_law_odd" fd__law_odd := by obtain ⟨f, fdat, a, F⟩ := h__law_odd.ex; exact r__law_odd G F (PySem.W.mg_of X N a)
  have q__law_way : Row P wo g base tab "_law_way" fd__law_way := by obtain ⟨f, fdat, a, F⟩ := h__law_way.ex; exact r__law_way G F (PySem.W.mg_of X N a)
  have q__law_bent : Row P wo g base tab "_law_bent" fd__law_bent := by obtain ⟨f, fdat, a, F⟩ := h__law_bent.ex; exact r__law_bent G F (PySem.W.mg_of X N a)
  have q__law_great : Row P wo g base tab "_law_great" fd__law_great := by obtain ⟨f, fdat, a, F⟩ := h__law_great.ex; exact r__law_great G F (PySem.W.mg_of X N a)
  have q_law : Row P wo g base tab "law" fd_law := by obtain ⟨f, fdat, a, F⟩ := h_law.ex; exact r_law G F (PySem.W.mg_of X N a)
  intro x fd e
  exact row_if q_is_integer (row_if q_is_name (row_if q_is_word (row_if q_is_kind (row_if q_parts (row_if q_has_functions (row_if q_is_plain (row_if q_is_form (row_if q__law_bag (row_if q__law_take (row_if q__law_alike (row_if q__law_one (row_if q__law_names (row_if q__law_any_kind (row_if q__law_is_name (row_if q__law_is_kind (row_if q__law_is_form (row_if q__law_odd (row_if q__law_way (row_if q__law_bent (row_if q__law_great (row_if q_law (fun (z : (none : Option Fd) = some fd) => by cases z)))))))))))))))))))))) e
theorem gf_mk {wo : World} {K : PySem.W.Frag} {mg : Str → Option Value} {h : Heap} (X : K.In h) (N : h.Ns mainGlobals mg)
    (z_len : PySem.W.nsIn K mainGlobals "len" = some none)
    (z_list : PySem.W.nsIn K mainGlobals "list" = some none)
    (z_tuple : PySem.W.nsIn K mainGlobals "tuple" = some none)
    (z_sum : PySem.W.nsIn K mainGlobals "sum" = some none)
    (z_max : PySem.W.nsIn K mainGlobals "max" = some none)
    (z_min : PySem.W.nsIn K mainGlobals "min" = some none)
    (z_abs : PySem.W.nsIn K mainGlobals "abs" = some none)
    (z_int : PySem.W.nsIn K mainGlobals "int" = some none)
    (z_sorted : PySem.W.nsIn K mainGlobals "sorted" = some none)
    (z_repr : PySem.W.nsIn K mainGlobals "repr" = some none)
    (z_all : PySem.W.nsIn K mainGlobals "all" = some none)
    (z_any : PySem.W.nsIn K mainGlobals "any" = some none)
    (z_isinstance : PySem.W.nsIn K mainGlobals "isinstance" = some none)
    (z_bool : PySem.W.nsIn K mainGlobals "bool" = some none)
    (z_range : PySem.W.nsIn K mainGlobals "range" = some none)
    (z_str : PySem.W.nsIn K mainGlobals "str" = some none)
    {t_LETTERS : Tok} (c_LETTERS : PySem.W.nsIn K mainGlobals "LETTERS" = some (some (.str "abcdefghijklmnopqrstuvwxyz" t_LETTERS)))
    {d_WIDTHS : Addr} (c_WIDTHS : PySem.W.nsIn K mainGlobals "WIDTHS" = some (some (.ref d_WIDTHS))) {es_WIDTHS : Array DictEntry} {n_WIDTHS : Nat} (e_WIDTHS : K.lookup d_WIDTHS = some ⟨.type "dict", none, .dict es_WIDTHS n_WIDTHS, #[]⟩) (f_WIDTHS : es_WIDTHS.toList.map He.keyOf = He.keysIn wo.params ["list", "pair", "fun"]) (g_WIDTHS : (d_WIDTHS == sysModules) = false)
    {t_WIDTHS_0 : Tok} (k_WIDTHS_0 : PySem.W.nsIn K d_WIDTHS "list" = some (some (.int 1 t_WIDTHS_0)))
    {t_WIDTHS_1 : Tok} (k_WIDTHS_1 : PySem.W.nsIn K d_WIDTHS "pair" = some (some (.int 2 t_WIDTHS_1)))
    {t_WIDTHS_2 : Tok} (k_WIDTHS_2 : PySem.W.nsIn K d_WIDTHS "fun" = some (some (.int 2 t_WIDTHS_2)))
    : GF wo ⟨K, mg⟩ := ⟨PySem.W.mg_none_of X N z_len, PySem.W.mg_none_of X N z_list, PySem.W.mg_none_of X N z_tuple, PySem.W.mg_none_of X N z_sum, PySem.W.mg_none_of X N z_max, PySem.W.mg_none_of X N z_min, PySem.W.mg_none_of X N z_abs, PySem.W.mg_none_of X N z_int, PySem.W.mg_none_of X N z_sorted, PySem.W.mg_none_of X N z_repr, PySem.W.mg_none_of X N z_all, PySem.W.mg_none_of X N z_any, PySem.W.mg_none_of X N z_isinstance, PySem.W.mg_none_of X N z_bool, PySem.W.mg_none_of X N z_range, PySem.W.mg_none_of X N z_str, ⟨t_LETTERS, PySem.W.mg_of X N c_LETTERS⟩, kw_of (PySem.W.mg_of X N c_WIDTHS) (dicW_at e_WIDTHS f_WIDTHS g_WIDTHS) (fun p hp => by simp only [w_WIDTHS, List.mem_cons, List.not_mem_nil, or_false] at hp; rcases hp with rfl | rfl | rfl; exact krow_int k_WIDTHS_0; exact krow_int k_WIDTHS_1; exact krow_int k_WIDTHS_2)⟩
theorem all_mk {l : PySem.W.OpenLaw} {w : World} {K : PySem.W.Frag} {h : Heap} {mg : Str → Option Value} {fa : Addr} (X : K.In h) (N : h.Ns mainGlobals mg) (hfa : mg "law" = some (.ref fa)) (G : GF w ⟨K, mg⟩)
    (h_is_integer : FF K "is_integer" s_is_integer)
    (h_is_name : FF K "is_name" s_is_name)
    (h_is_word : FF K "is_word" s_is_word)
    (h_is_kind : FF K "is_kind" s_is_kind)
    (h_parts : FF K "parts" s_parts)
    (h_has_functions : FF K "has_functions" s_has_functions)
    (h_is_plain : FF K "is_plain" s_is_plain)
    (h_is_form : FF K "is_form" s_is_form)
    (h__law_bag : FF K "_law_bag" s__law_bag)
    (h__law_take : FF K "_law_take" s__law_take)
    (h__law_alike : FF K "_law_alike" s__law_alike)
    (h__law_one : FF K "_law_one" s__law_one)
    (h__law_names : FF K "_law_names" s__law_names)
    (h__law_any_kind : FF K "_law_any_kind" s__law_any_kind)
    (h__law_is_name : FF K "_law_is_name" s__law_is_name)
    (h__law_is_kind : FF K "_law_is_kind" s__law_is_kind)
    (h__law_is_form : FF K "_law_is_form" s__law_is_form)
    (h__law_odd : FF K "_law_odd" s__law_odd)
    (h__law_way : FF K "_law_way" s__law_way)
    (h__law_bent : FF K "_law_bent" s__law_bent)
    (h__law_great : FF K "_law_great" s__law_great)
    {f : Addr} {od an : Option Addr} {sl : Array (Option Value)} {oc kV dc pm cd ct : Value} (a : PySem.W.nsIn K mainGlobals "law" = some (some (.ref f))) (l1 : K.lookup f = some ⟨oc, od, .func (PySem.W.fnOf "law" "law" (defArgs s_law) (defBody s_law) (defScope s_law) .none kV dc pm an cd ct), sl⟩) (c : PySem.W.codeIn K cd "law" = true) (kk : PySem.W.keepIn K (.ref f) = true)
    : ∃ fd : FuncData, (∀ (s : Shared) (u : Value), BindsTo s fd ⟨[u], []⟩ [("_law_script", u)]) ∧ ∀ base : Heap, K.In base → base.Ns mainGlobals mg → FnG l.prog w ⟨K, mg⟩ base CX0 60 fa fd ["_law_script"] (spN ⟨K, mg⟩ (callN tab 60 "law") 1) := by
  have e := hfa.symm.trans (PySem.W.mg_of X N a)
  cases e
  refine ⟨PySem.W.fnOf "law" "law" (defArgs s_law) (defBody s_law) (defScope s_law) .none kV dc pm an cd ct, fun s v => .of_eq rfl, fun base _ _ => ?_⟩
  have DS := defs_all (rows (P := l.prog) (base := base) G X N h_is_integer h_is_name h_is_word h_is_kind h_parts h_has_functions h_is_plain h_is_form h__law_bag h__law_take h__law_alike h__law_one h__law_names h__law_any_kind h__law_is_name h__law_is_kind h__law_is_form h__law_odd h__law_way h__law_bent h__law_great (ff_mk a l1 c kk)) 59
  exact fnG_of (fun_mk l1 c kk) sc_law rfl rfl (fun cdv A out s H E hr => p_law G DS cdv A out s H E hr) t_law
end K11
namespace K11
open PySem PySem.Spec PyProof.Rows L2 Ax
theorem xChain_at {op op' : D → D → Hh → Res D} {a b c : Fn} {ρ : Rho} {h : Hh} : xChain op op' a b c ρ h = (a ρ h).bind fun x h1 => (b ρ h1).bind fun y h2 => (op x y h2).bind fun z h3 => (isB z h3).bind fun k h4 => if k then (c ρ h4).bind fun u h5 => op' y u h5 else .ok (.bl false) h4 := rfl
theorem sz_of {n : Nat} (e : n ≤ 1000) : sz n = true := by
  simp only [sz, decide_eq_true_eq]
  exact Nat.le_trans e (by decide)
theorem sl_of {n : Nat} (e : n ≤ 1000) : n ≤ sizeLine := Nat.le_trans e (by decide)
abbrev ABC : Str := "abcdefghijklmnopqrstuvwxyz"
def lets (x : Str) : Bool := x.cps.toList.all fun c => decide (c ∈ ABC.cps.toList)
def isNm : D → Bool
  | .str x => decide (1 ≤ x.length) && (decide (x.length ≤ 8) && lets x)
  | _ => false
def trk : Nat → D → Bool
  | _, .str x => decide (x.length ≤ 1000)
  | 0, .tup _ => false
  | k + 1, .tup ds => decide (ds.length ≤ 1000) && ds.all (trk k)
  | _, .ref _ => false
  | _, .scr _ => false
  | _, .obj _ _ => false
  | _, .val _ => false
  | _, _ => true
theorem all_id {α : Type} {l : List α} {p : α → Bool} : (l.map p).all id = l.all p := by rw [List.all_map]; rfl
theorem any_id {α : Type} {l : List α} {p : α → Bool} : (l.map p).any id = l.any p := by rw [List.any_map]; rfl
theorem map_bl {α : Type} {l : List α} {p : α → Bool} : (l.map fun c => D.bl (p c)) = (l.map p).map D.bl := by rw [List.map_map]; rfl
variable {h : Hh} {j k : Nat} {d : D}
theorem is_name_ok (tr : trk k d = true) : callN tab (j + 1) "is_name" [d] h = .ok (.bl (isNm d)) h := by
  rw [call_at t_is_name rfl]
  cases d with
  | str x =>
    have hl : x.length ≤ 1000 := by simpa [trk] using tr
    have hc : (lcL (gN 1) yYes (xBin inD (xV 1) (xC (.str "abcdefghijklmnopqrstuvwxyz"))) [some (D.str x), none] (x.cps.toList.map fun c => D.str ⟨#[c]⟩) h) = .ok (x.cps.toList.map fun c => D.bl (decide (c ∈ ABC.cps.toList))) h := lc_map fun c _ => by
      simp [in_sign]
    have hz : sz x.cps.size = true := sz_of hl
    simp only [fd_is_name, b_is_name, startR, isNm]
    by_cases h1 : 1 ≤ x.length
    · by_cases h2 : x.length ≤ 8
      · have h1' : (1 : Int) ≤ x.length := by omega
        have h2' : (x.length : Int) ≤ 8 := by omega
        simp [xChain_at, len_str (sl_of hl), h1, h2, h1', h2']
        rw [if_pos hz, hc]
        simp only [noX_ok, bind_ok, lcF_at, map_bl, all_at, all_id, of_ok, endB_rt]
        rfl
      · have h1' : (1 : Int) ≤ x.length := by omega
        have h2' : ¬ (x.length : Int) ≤ 8 := by omega
        simp [xChain_at, len_str (sl_of hl), h1, h2, h1', h2']
    · have h1' : ¬ (1 : Int) ≤ x.length := by omega
      simp [xChain_at, len_str (sl_of hl), h1, h1']
  | non => simp [fd_is_name, b_is_name, startR, isNm]
  | bl b => simp [fd_is_name, b_is_name, startR, isNm]
  | int b => simp [fd_is_name, b_is_name, startR, isNm]
  | tup b => simp [fd_is_name, b_is_name, startR, isNm]
  | lst b => simp [fd_is_name, b_is_name, startR, isNm]
  | dct b => simp [fd_is_name, b_is_name, startR, isNm]
  | obj b c => cases k <;> simp [trk] at tr
  | ref b => cases k <;> simp [trk] at tr
  | scr b => cases k <;> simp [trk] at tr
  | val b => cases k <;> simp [trk] at tr
theorem law_is_name_ok (tr : trk k d = true) : callN tab (j + 1) "_law_is_name" [d] h = .ok (.bl (isNm d)) h := by
  rw [call_at t__law_is_name rfl]
  cases d with
  | str x =>
    have hl : x.length ≤ 1000 := by simpa [trk] using tr
    have hz : sz x.cps.size = true := sz_of hl
    have hc : (lcL (gN 1) (yV (xBin ninD (xV 1) (xC (.str "abcdefghijklmnopqrstuvwxyz")))) (xV 1) [some (D.str x), none] (x.cps.toList.map fun c => D.str ⟨#[c]⟩) h) = .ok ((x.cps.toList.map fun c => D.str ⟨#[c]⟩).filter fun d => match d with | .str y => !decide (y.cps.toList.getD 0 0 ∈ ABC.cps.toList) | _ => false) h := lc_filter (fun d hd => by
      obtain ⟨c, hc, rfl⟩ := List.mem_map.mp hd
      simp [nin_sign]) fun d hd => by simp
    simp only [fd__law_is_name, b__law_is_name, startR, isNm]
    by_cases h1 : 1 ≤ x.length
    · by_cases h2 : x.length ≤ 8
      · have h1' : (1 : Int) ≤ x.length := by omega
        have h2' : (x.length : Int) ≤ 8 := by omega
        simp [xChain_at, zSeq_at, len_str (sl_of hl), h1, h2, h1', h2', sz]
        have hz2 : x.cps.size ≤ sizeLine := sl_of hl
        rw [if_pos hz2, hc]
        simp only [noX_ok, bind_ok, lcF_at, eq_nil, of_ok, endB_rt, lets]
        congr 2
        generalize x.cps.toList = l
        induction l with
        | nil => rfl
        | cons c r ih =>
          by_cases hc : c ∈ ABC.cps
          · simp [hc, List.filter_cons] at ih ⊢
            exact ih
          · simp [hc, List.filter_cons]
      · have h1' : (1 : Int) ≤ x.length := by omega
        have h2' : ¬ (x.length : Int) ≤ 8 := by omega
        simp [xChain_at, zSeq_at, len_str (sl_of hl), h1, h2, h1', h2']
    · have h1' : ¬ (1 : Int) ≤ x.length := by omega
      simp [xChain_at, zSeq_at, len_str (sl_of hl), h1, h1']
  | non => simp [fd__law_is_name, b__law_is_name, startR, isNm, zSeq_at]
  | bl b => simp [fd__law_is_name, b__law_is_name, startR, isNm, zSeq_at]
  | int b => simp [fd__law_is_name, b__law_is_name, startR, isNm, zSeq_at]
  | tup b => simp [fd__law_is_name, b__law_is_name, startR, isNm, zSeq_at]
  | lst b => simp [fd__law_is_name, b__law_is_name, startR, isNm, zSeq_at]
  | dct b => simp [fd__law_is_name, b__law_is_name, startR, isNm, zSeq_at]
  | obj b c => cases k <;> simp [trk] at tr
  | ref b => cases k <;> simp [trk] at tr
  | scr b => cases k <;> simp [trk] at tr
  | val b => cases k <;> simp [trk] at tr
end K11
namespace K11
open PySem PySem.Spec PyProof.Rows L2 Ax
def wd (w : Str) : Nat := if w = "list" then 1 else 2
abbrev W3 : List Str := ["list", "pair", "fun"]
abbrev W2 : List Str := ["list", "pair"]
def isKd : Nat → List Str → D → Bool
  | k + 1, ws, .tup (.str w :: ds) => decide (w ∈ ws) && (decide (ds.length = wd w) && ds.all (isKd k ws))
  | _ + 1, _, .tup _ => false
  | _, _, d => isNm d
theorem lk (x : Str) : (x = "list" ∧ w_WIDTHS.lookup x = some (.int 1)) ∨ (x = "pair" ∧ w_WIDTHS.lookup x = some (.int 2)) ∨ (x = "fun" ∧ w_WIDTHS.lookup x = some (.int 2)) ∨ (x ∉ W3 ∧ w_WIDTHS.lookup x = none) := by
  by_cases h1 : x = "list"
  · exact .inl ⟨h1, by rw [h1]; rfl⟩
  by_cases h2 : x = "pair"
  · exact .inr (.inl ⟨h2, by rw [h2]; rfl⟩)
  by_cases h3 : x = "fun"
  · exact .inr (.inr (.inl ⟨h3, by rw [h3]; rfl⟩))
  refine .inr (.inr (.inr ⟨by simp [h1, h2, h3], ?_⟩))
  have g1 : (x == ("list" : Str)) = false := by simpa using h1
  have g2 : (x == ("pair" : Str)) = false := by simpa using h2
  have g3 : (x == ("fun" : Str)) = false := by simpa using h3
  simp only [w_WIDTHS, List.lookup, g1, g2, g3]
/-- its length by its word -/
theorem lk2 (x : Str) : (x ∈ W3 ∧ w_WIDTHS.lookup x = some (.int (wd x))) ∨ (x ∉ W3 ∧ w_WIDTHS.lookup x = none) := by
  rcases lk x with ⟨rfl, e⟩ | ⟨rfl, e⟩ | ⟨rfl, e⟩ | e
  · exact .inl ⟨by decide, e⟩
  · exact .inl ⟨by decide, e⟩
  · exact .inl ⟨by decide, e⟩
  · exact .inr e
variable {h : Hh} {j k : Nat} {d : D}
@[simp] theorem inW_at {a : Fn} {ρ : Rho} {l : List (Str × D)} : xInW l a ρ h = (a ρ h).bind fun x h1 => match x with | .str z => .ok (.bl (l.lookup z).isSome) h1 | _ => .bad := rfl
@[simp] theorem idxW_at {a : Fn} {ρ : Rho} {l : List (Str × D)} : xIdxW l a ρ h = (a ρ h).bind fun x h1 => match x with | .str z => optD (l.lookup z) h1 | _ => .bad := rfl
def isWd : D → Bool
  | .str x => decide (x ∈ W3)
  | _ => false
theorem is_word_ok (tr : trk k d = true) : callN tab (j + 1) "is_word" [d] h = .ok (.bl (isWd d)) h := by
  rw [call_at t_is_word rfl]
  cases d with
  | str x =>
    rcases lk2 x with ⟨e1, e2⟩ | ⟨e1, e2⟩
    · simp only [fd_is_word, b_is_word, startR, isWd, e1]
      simp [e2]
    · simp only [fd_is_word, b_is_word, startR, isWd, e1]
      simp [e2]
  | non => simp [fd_is_word, b_is_word, startR, isWd]
  | bl b => simp [fd_is_word, b_is_word, startR, isWd]
  | int b => simp [fd_is_word, b_is_word, startR, isWd]
  | tup b => simp [fd_is_word, b_is_word, startR, isWd]
  | lst b => simp [fd_is_word, b_is_word, startR, isWd]
  | dct b => simp [fd_is_word, b_is_word, startR, isWd]
  | obj b c => cases k <;> simp [trk] at tr
  | ref b => cases k <;> simp [trk] at tr
  | scr b => cases k <;> simp [trk] at tr
  | val b => cases k <;> simp [trk] at tr
theorem isKd_at {ws : List Str} (hd : ∀ ds, d ≠ .tup ds) : isKd k ws d = isNm d := by
  cases k with
  | zero => cases d <;> rfl
  | succ k => cases d <;> first | rfl | exact absurd rfl (hd _)
theorem tr_tup {ds : List D} (tr : trk k (.tup ds) = true) : ∃ k', k = k' + 1 ∧ ds.length ≤ 1000 ∧ ∀ x ∈ ds, trk k' x = true := by
  cases k with
  | zero => simp [trk] at tr
  | succ k =>
    simp only [trk, Bool.and_eq_true, decide_eq_true_eq, List.all_eq_true] at tr
    exact ⟨k, rfl, tr.1, tr.2⟩
theorem is_kind_ok : ∀ (k : Nat) (d : D) (j : Nat), trk k d = true → callN tab (j + k + 2) "is_kind" [d] h = .ok (.bl (isKd k W3 d)) h := by
  intro k
  induction k with
  | zero =>
    intro d j tr
    rw [call_at t_is_kind rfl]
    have nm : callN tab (j + 0 + 1) "is_name" [d] h = .ok (.bl (isNm d)) h := is_name_ok (j := j + 0) tr
    cases d with
    | str x => simp [fd_is_kind, b_is_kind, startR, zSeq_at, nm, isKd_at]
    | non => simp [fd_is_kind, b_is_kind, startR, zSeq_at, isKd_at, isNm]
    | bl b => simp [fd_is_kind, b_is_kind, startR, zSeq_at, isKd_at, isNm]
    | int b => simp [fd_is_kind, b_is_kind, startR, zSeq_at, isKd_at, isNm]
    | tup b => simp [trk] at tr
    | lst b => simp [fd_is_kind, b_is_kind, startR, zSeq_at, isKd_at, isNm]
    | dct b => simp [fd_is_kind, b_is_kind, startR, zSeq_at, isKd_at, isNm]
    | obj b c => simp [trk] at tr
    | ref b => simp [trk] at tr
    | scr b => simp [trk] at tr
    | val b => simp [trk] at tr
  | succ k ih =>
    intro d j tr
    rw [show j + (k + 1) + 2 = (j + k + 2) + 1 by omega, call_at t_is_kind rfl]
    have nm : callN tab (j + k + 2) "is_name" [d] h = .ok (.bl (isNm d)) h := is_name_ok (j := j + k + 1) tr
    cases d with
    | str x => simp [fd_is_kind, b_is_kind, startR, zSeq_at, nm, isKd_at]
    | non => simp [fd_is_kind, b_is_kind, startR, zSeq_at, isKd_at, isNm]
    | bl b => simp [fd_is_kind, b_is_kind, startR, zSeq_at, isKd_at, isNm]
    | int b => simp [fd_is_kind, b_is_kind, startR, zSeq_at, isKd_at, isNm]
    | lst b => simp [fd_is_kind, b_is_kind, startR, zSeq_at, isKd_at, isNm]
    | dct b => simp [fd_is_kind, b_is_kind, startR, zSeq_at, isKd_at, isNm]
    | obj b c => simp [trk] at tr
    | ref b => simp [trk] at tr
    | scr b => simp [trk] at tr
    | val b => simp [trk] at tr
    | tup ds =>
      obtain ⟨k', e, hl, hp⟩ := tr_tup tr
      obtain rfl : k = k' := by omega
      match ds, hl, hp with
      | [], hl, hp => simp [fd_is_kind, b_is_kind, startR, zSeq_at, isKd]
      | [a], hl, hp =>
        have e : isKd (k + 1) W3 (.tup [a]) = false := by
          cases a <;> first | rfl | (simp only [isKd, List.length_nil, wd]; split <;> simp)
        rw [e]
        simp [fd_is_kind, b_is_kind, startR, zSeq_at]
      | a :: b :: r, hl, hp =>
        have hw : callN tab (j + k + 2) "is_word" [a] h = .ok (.bl (isWd a)) h := is_word_ok (j := j + k + 1) (hp a (List.mem_cons_self ..))
        have n2 : ¬ ((r.length : Int) + 1 + 1 < 2) := by omega
        by_cases ha : isWd a = true
        · obtain ⟨x, rfl, hx⟩ : ∃ x, a = .str x ∧ x ∈ W3 := by
            cases a with
            | str x => exact ⟨x, rfl, by simpa [isWd] using ha⟩
            | _ => simp [isWd] at ha
          rcases lk2 x with ⟨e1, e2⟩ | ⟨e1, e2⟩
          · by_cases hn : (b :: r).length = wd x
            · have hn2 : (r.length : Int) + 1 + 1 = (wd x : Int) + 1 := by rw [← hn]; simp
              have n3 : ¬ ((wd x : Int) + 1 < 2) := by simp only [List.length_cons] at hn; omega
              have hc : lcL (gN 1) yYes (xCall 1 (callN tab (j + k + 2) "is_kind") (xCons (xV 1) xNil)) [some (D.tup (.str x :: b :: r)), none] (b :: r) h = .ok ((b :: r).map fun y => D.bl (isKd k W3 y)) h := lc_mapD fun y hy => by
                simp [ih y j (hp y (List.mem_cons_of_mem _ hy))]
              have hz : sz (b :: r).length = true := sz_of (by simp only [List.length_cons] at hl ⊢; omega)
              simp only [fd_is_kind, b_is_kind, startR, isKd, e1, hn, decide_true, Bool.true_and]
              rw [zSeq_at]
              simp [n2, n3, hw, ha, zSeq_at, e2, optD, hn2]
              simp only [List.length_cons] at hz
              rw [if_pos hz, hc]
              simp only [noX_ok, bind_ok, lcF_at, map_bl, all_at, all_id, of_ok, endB_rt]
              rfl
            · have hn2 : ¬ (r.length : Int) + 1 + 1 = (wd x : Int) + 1 := by simp only [List.length_cons] at hn; omega
              simp only [fd_is_kind, b_is_kind, startR, isKd, e1, hn, decide_false, Bool.false_and, Bool.and_false]
              rw [zSeq_at]
              simp [n2, hw, ha, zSeq_at, e2, optD, hn2]
          · exact absurd hx e1
        · have e : isKd (k + 1) W3 (.tup (a :: b :: r)) = false := by
            cases a with
            | str x =>
              have : x ∉ W3 := by simpa [isWd] using ha
              simp only [isKd, this, decide_false, Bool.false_and]
            | _ => rfl
          rw [e]
          simp only [Bool.not_eq_true] at ha
          simp [fd_is_kind, b_is_kind, startR, zSeq_at, n2, hw, ha]
end K11
namespace K11
open PySem PySem.Spec PyProof.Rows L2 Ax
variable {h : Hh} {j k : Nat} {d : D}
theorem nin23 {n : Int} : ninD (.int n) (.tup [.int 2, .int 3]) h = .ok (.bl (!(decide (n = 2) || decide (n = 3)))) h := by
  simp [ninD, inB, asD, toD, toP, toPs, dOk, PyData.plain, PyData.plainAll, PyData.depth, PyData.depthAll, PyData.eqv]
  by_cases h1 : n = 2 <;> by_cases h2 : n = 3 <;> simp [h1, h2] <;> omega
theorem nin_W3 {x : Str} : ninD (.str x) (.lst [.str "list", .str "pair", .str "fun"]) h = .ok (.bl (!decide (x ∈ W3))) h := by
  simp [ninD, inB, asD, toD, toP, toPs, dOk, PyData.plain, PyData.plainAll, PyData.depth, PyData.depthAll, PyData.eqv]
  by_cases h1 : x = "list"
  · simp [h1]
  by_cases h2 : x = "pair"
  · simp [h2]
  by_cases h3 : x = "fun"
  · simp [h3]
  simp [h1, h2, h3, Ne.symm h1, Ne.symm h2, Ne.symm h3]
theorem nin_T3 {x : Str} : ninD (.str x) (.tup [.str "list", .str "pair", .str "fun"]) h = .ok (.bl (!decide (x ∈ W3))) h := by
  simp [ninD, inB, asD, toD, toP, toPs, dOk, PyData.plain, PyData.plainAll, PyData.depth, PyData.depthAll, PyData.eqv]
  by_cases h1 : x = "list"
  · simp [h1]
  by_cases h2 : x = "pair"
  · simp [h2]
  by_cases h3 : x = "fun"
  · simp [h3]
  simp [h1, h2, h3, Ne.symm h1, Ne.symm h2, Ne.symm h3]
theorem nin_W2 {x : Str} : ninD (.str x) (.lst [.str "list", .str "pair"]) h = .ok (.bl (!decide (x ∈ W2))) h := by
  simp [ninD, inB, asD, toD, toP, toPs, dOk, PyData.plain, PyData.plainAll, PyData.depth, PyData.depthAll, PyData.eqv]
  by_cases h1 : x = "list"
  · simp [h1]
  by_cases h2 : x = "pair"
  · simp [h2]
  simp [h1, h2, Ne.symm h1, Ne.symm h2]
/-- the law's words: any of the two lists -/
theorem law_is_kind_ok {wl : List D} {ws : List Str} (hws : ∀ x, x ∈ ws → x ∈ W3) (hin : ∀ (x : Str), ninD (.str x) (.lst wl) h = .ok (.bl (!decide (x ∈ ws))) h) :
    ∀ (k : Nat) (d : D) (j : Nat), trk k d = true → callN tab (j + k + 2) "_law_is_kind" [d, .lst wl] h = .ok (.bl (isKd k ws d)) h := by
  intro k
  induction k with
  | zero =>
    intro d j tr
    rw [call_at t__law_is_kind rfl]
    have nm : callN tab (j + 0 + 1) "_law_is_name" [d] h = .ok (.bl (isNm d)) h := law_is_name_ok (j := j + 0) tr
    cases d with
    | str x => simp [fd__law_is_kind, b__law_is_kind, startR, zSeq_at, nm, isKd_at]
    | non => simp [fd__law_is_kind, b__law_is_kind, startR, zSeq_at, nm, isKd_at]
    | bl b => simp [fd__law_is_kind, b__law_is_kind, startR, zSeq_at, nm, isKd_at]
    | int b => simp [fd__law_is_kind, b__law_is_kind, startR, zSeq_at, nm, isKd_at]
    | tup b => simp [trk] at tr
    | lst b => simp [fd__law_is_kind, b__law_is_kind, startR, zSeq_at, nm, isKd_at]
    | dct b => simp [fd__law_is_kind, b__law_is_kind, startR, zSeq_at, nm, isKd_at]
    | obj b c => simp [trk] at tr
    | ref b => simp [trk] at tr
    | scr b => simp [trk] at tr
    | val b => simp [trk] at tr
  | succ k ih =>
    intro d j tr
    rw [show j + (k + 1) + 2 = (j + k + 2) + 1 by omega, call_at t__law_is_kind rfl]
    have nm : callN tab (j + k + 2) "_law_is_name" [d] h = .ok (.bl (isNm d)) h := law_is_name_ok (j := j + k + 1) tr
    cases d with
    | str x => simp [fd__law_is_kind, b__law_is_kind, startR, zSeq_at, nm, isKd_at]
    | non => simp [fd__law_is_kind, b__law_is_kind, startR, zSeq_at, nm, isKd_at]
    | bl b => simp [fd__law_is_kind, b__law_is_kind, startR, zSeq_at, nm, isKd_at]
    | int b => simp [fd__law_is_kind, b__law_is_kind, startR, zSeq_at, nm, isKd_at]
    | lst b => simp [fd__law_is_kind, b__law_is_kind, startR, zSeq_at, nm, isKd_at]
    | dct b => simp [fd__law_is_kind, b__law_is_kind, startR, zSeq_at, nm, isKd_at]
    | obj b c => simp [trk] at tr
    | ref b => simp [trk] at tr
    | scr b => simp [trk] at tr
    | val b => simp [trk] at tr
    | tup ds =>
      obtain ⟨k', e, hl, hp⟩ := tr_tup tr
      obtain rfl : k = k' := by omega
      by_cases hln : ds.length = 2 ∨ ds.length = 3
      · obtain ⟨a, b, r, rfl⟩ : ∃ a b r, ds = a :: b :: r := by
          match ds, hln with
          | a :: b :: r, _ => exact ⟨a, b, r, rfl⟩
          | [a], h => simp at h
          | [], h => simp at h
        have hz23 : sz ([D.int 2, D.int 3] : List D).length = true := by decide
        have n23 : ((r.length : Int) + 1 + 1 = 2 ∨ (r.length : Int) + 1 + 1 = 3) := by simp only [List.length_cons] at hln; omega
        have n23' : (decide ((r.length : Int) + 1 + 1 = 2) || decide ((r.length : Int) + 1 + 1 = 3)) = true := by simpa using n23
        cases a with
        | str x =>
          by_cases hx : x ∈ ws
          · have hxl : sz (2 : Nat) = true := by decide
            by_cases hn : (b :: r).length = wd x
            · have hc : lcL (gN 2) (yNot (yV (xCall 2 (callN tab (j + k + 2) "_law_is_kind") (xCons (xV 2) (xCons (xV 1) xNil))))) (xV 2) [some (D.tup (.str x :: b :: r)), some (.lst wl), none] (b :: r) h = .ok ((b :: r).filter fun y => !isKd k ws y) h := lc_filter (fun y hy => by
                simp [ih y j (hp y (List.mem_cons_of_mem _ hy))]) fun y hy => by simp
              have hz : sz (b :: r).length = true := sz_of (by simp only [List.length_cons] at hl ⊢; omega)
              have hf : ((b :: r).filter fun y => !isKd k ws y).isEmpty = (b :: r).all (isKd k ws) := by
                generalize b :: r = l
                induction l with
                | nil => rfl
                | cons c l ih => by_cases q : isKd k ws c = true <;> simp [List.filter_cons, q, ih]
              simp only [fd__law_is_kind, b__law_is_kind, startR, isKd, hx, hn, decide_true, Bool.true_and]
              rw [zSeq_at]
              by_cases hxl2 : x = "list"
              · have hn2 : (r.length : Int) + 1 + 1 = 2 := by simp only [List.length_cons, wd, hxl2, if_true] at hn; omega
                subst hxl2
                simp [zSeq_at, nin23, n23', hin, hx, hn2, sz_of]
                simp only [List.length_cons] at hz
                rw [if_pos hz, hc]
                simp only [noX_ok, bind_ok, lcF_at, eq_nil, hf, of_ok, endB_rt]
                rfl
              · have hn2 : (r.length : Int) + 1 + 1 = 3 := by simp only [List.length_cons, wd, hxl2, if_false] at hn; omega
                simp [zSeq_at, nin23, n23', hin, hx, hxl2, hn2, sz_of]
                simp only [List.length_cons] at hz
                rw [if_pos hz, hc]
                simp only [noX_ok, bind_ok, lcF_at, eq_nil, hf, of_ok, endB_rt]
                rfl
            · simp only [fd__law_is_kind, b__law_is_kind, startR, isKd, hx, hn, decide_false, Bool.false_and, Bool.and_false]
              rw [zSeq_at]
              by_cases hxl2 : x = "list"
              · have hn2 : ¬ (r.length : Int) + 1 + 1 = 2 := by simp only [List.length_cons, wd, hxl2, if_true] at hn; omega
                have hn3 : (r.length : Int) + 1 + 1 = 3 := by omega
                subst hxl2
                simp [zSeq_at, nin23, n23', hin, hx, hn2, hn3, sz_of]
              · have hn2 : ¬ (r.length : Int) + 1 + 1 = 3 := by simp only [List.length_cons, wd, hxl2, if_false] at hn; omega
                have hn3 : (r.length : Int) + 1 + 1 = 2 := by omega
                simp [zSeq_at, nin23, n23', hin, hx, hxl2, hn2, hn3, sz_of]
          · simp only [fd__law_is_kind, b__law_is_kind, startR, isKd, hx, decide_false, Bool.false_and]
            simp [zSeq_at, nin23, n23', hin, hx, sz_of]
        | non => simp [fd__law_is_kind, b__law_is_kind, startR, isKd, zSeq_at, nin23, n23', sz_of]
        | bl _ => simp [fd__law_is_kind, b__law_is_kind, startR, isKd, zSeq_at, nin23, n23', sz_of]
        | int _ => simp [fd__law_is_kind, b__law_is_kind, startR, isKd, zSeq_at, nin23, n23', sz_of]
        | tup _ => simp [fd__law_is_kind, b__law_is_kind, startR, isKd, zSeq_at, nin23, n23', sz_of]
        | lst _ => simp [fd__law_is_kind, b__law_is_kind, startR, isKd, zSeq_at, nin23, n23', sz_of]
        | dct _ => simp [fd__law_is_kind, b__law_is_kind, startR, isKd, zSeq_at, nin23, n23', sz_of]
        | obj b c => exact absurd (hp _ (List.mem_cons_self ..)) (by cases k <;> simp [trk])
        | ref b => exact absurd (hp _ (List.mem_cons_self ..)) (by cases k <;> simp [trk])
        | scr b => exact absurd (hp _ (List.mem_cons_self ..)) (by cases k <;> simp [trk])
        | val b => exact absurd (hp _ (List.mem_cons_self ..)) (by cases k <;> simp [trk])
      · have e : isKd (k + 1) ws (.tup ds) = false := by
          match ds, hln with
          | [], _ => rfl
          | .str w :: r, hln =>
            have : ¬ r.length = wd w := by
              simp only [List.length_cons] at hln
              unfold wd
              split <;> omega
            simp only [isKd, this, decide_false, Bool.false_and, Bool.and_false]
          | .non :: r, _ | .bl _ :: r, _ | .int _ :: r, _ | .tup _ :: r, _ | .lst _ :: r, _ | .dct _ :: r, _ | .obj _ _ :: r, _ | .ref _ :: r, _ | .scr _ :: r, _ | .val _ :: r, _ => rfl
        rw [e]
        have n23 : (decide ((ds.length : Int) = 2) || decide ((ds.length : Int) = 3)) = false := by
          have h2 : ¬ (ds.length : Int) = 2 := by omega
          have h3 : ¬ (ds.length : Int) = 3 := by omega
          simp [h2, h3]
        simp [fd__law_is_kind, b__law_is_kind, startR, zSeq_at, nin23, n23, sz_of]
end K11
namespace K11
open PySem PySem.Spec PyProof.Rows L2 Ax
variable {h : Hh} {j k : Nat} {d : D}
def hasF : Nat → D → Bool
  | k + 1, .tup (.str w :: ds) => decide (w = "fun") || ds.any (hasF k)
  | _, _ => false
theorem hasF_at (hd : ∀ ds, d ≠ .tup ds) : hasF k d = false := by
  cases k with
  | zero => cases d <;> rfl
  | succ k => cases d <;> first | rfl | exact absurd rfl (hd _)
theorem parts_ok {a : D} {ds : List D} : callN tab (j + 1) "parts" [.tup (a :: ds)] h = .ok (.lst ds) h := by
  rw [call_at t_parts rfl]
  simp [fd_parts, b_parts, startR]
theorem kd_tup {ws : List Str} {ds : List D} (e : isKd (k + 1) ws (.tup ds) = true) : ∃ w r, ds = .str w :: r ∧ w ∈ ws ∧ r.length = wd w ∧ ∀ x ∈ r, isKd k ws x = true := by
  match ds, e with
  | .str w :: r, e =>
    simp only [isKd, Bool.and_eq_true, decide_eq_true_eq, List.all_eq_true] at e
    exact ⟨w, r, rfl, e.1, e.2.1, e.2.2⟩
theorem has_functions_ok : ∀ (k : Nat) (d : D) (j : Nat), trk k d = true → isKd k W3 d = true → callN tab (j + k + 2) "has_functions" [d] h = .ok (.bl (hasF k d)) h := by
  intro k
  induction k with
  | zero =>
    intro d j tr kd
    rw [call_at t_has_functions rfl]
    cases d with
    | str x => simp [fd_has_functions, b_has_functions, startR, hasF_at]
    | tup b => simp [trk] at tr
    | _ => simp [isKd, isNm] at kd
  | succ k ih =>
    intro d j tr kd
    rw [show j + (k + 1) + 2 = (j + k + 2) + 1 by omega, call_at t_has_functions rfl]
    cases d with
    | str x => simp [fd_has_functions, b_has_functions, startR, hasF_at]
    | tup ds =>
      obtain ⟨k', e, hl, hp⟩ := tr_tup tr
      obtain rfl : k = k' := by omega
      obtain ⟨w, r, rfl, hw, hlr, hk⟩ := kd_tup kd
      by_cases hf : w = "fun"
      · simp [fd_has_functions, b_has_functions, startR, hasF, hf]
      · have hpp : callN tab (j + k + 2) "parts" [.tup (.str w :: r)] h = .ok (.lst r) h := parts_ok (j := j + k + 1)
        have hc : lcL (gN 1) yYes (xCall 1 (callN tab (j + k + 2) "has_functions") (xCons (xV 1) xNil)) [some (D.tup (.str w :: r)), none] r h = .ok (r.map fun y => D.bl (hasF k y)) h := lc_mapD fun y hy => by
          simp [ih y j (hp y (List.mem_cons_of_mem _ hy)) (hk y hy)]
        have hz : sz r.length = true := sz_of (by simp only [List.length_cons] at hl; omega)
        simp only [fd_has_functions, b_has_functions, startR, hasF, hf, decide_false, Bool.false_or]
        simp [hf, hpp]
        rw [if_pos hz, hc]
        simp only [noX_ok, bind_ok, lcF_at, map_bl, any_at, any_id, of_ok, endB_rt]
    | _ => simp [isKd, isNm] at kd
theorem is_plain_ok (tr : trk k d = true) : callN tab (j + k + 3) "is_plain" [d] h = .ok (.bl (isKd k W3 d && !hasF k d)) h := by
  rw [call_at t_is_plain rfl]
  have h1 := is_kind_ok (h := h) k d j tr
  by_cases q : isKd k W3 d = true
  · have h2 := has_functions_ok (h := h) k d j tr q
    simp [fd_is_plain, b_is_plain, startR, h1, h2, q]
  · simp only [Bool.not_eq_true] at q
    simp [fd_is_plain, b_is_plain, startR, h1, q]
theorem plain_eq : ∀ (k : Nat) (d : D), (isKd k W3 d && !hasF k d) = isKd k W2 d := by
  intro k
  induction k with
  | zero => intro d; cases d <;> simp [isKd, hasF]
  | succ k ih =>
    intro d
    cases d with
    | tup ds =>
      match ds with
      | [] => rfl
      | .str w :: r =>
        simp only [isKd, hasF]
        have e : r.all (isKd k W2) = (r.all (isKd k W3) && !r.any (hasF k)) := by
          induction r with
          | nil => rfl
          | cons a r ih2 =>
            rw [List.all_cons, List.all_cons, List.any_cons, ih2, ← ih a]
            cases isKd k W3 a <;> cases hasF k a <;> cases r.all (isKd k W3) <;> cases r.any (hasF k) <;> rfl
        rw [e]
        by_cases h1 : w = "list"
        · subst h1
          cases decide (r.length = wd "list") <;> cases r.all (isKd k W3) <;> cases r.any (hasF k) <;> rfl
        by_cases h2 : w = "pair"
        · subst h2
          cases decide (r.length = wd "pair") <;> cases r.all (isKd k W3) <;> cases r.any (hasF k) <;> rfl
        by_cases h3 : w = "fun"
        · subst h3
          cases decide (r.length = wd "fun") <;> cases r.all (isKd k W3) <;> cases r.any (hasF k) <;> rfl
        simp [h1, h2, h3]
      | .non :: r | .bl _ :: r | .int _ :: r | .tup _ :: r | .lst _ :: r | .dct _ :: r | .obj _ _ :: r | .ref _ :: r | .scr _ :: r | .val _ :: r => rfl
    | _ => simp [isKd, hasF]
def nsame : D → Bool
  | .tup (.str w :: _) => !decide (w = "same")
  | _ => false
def isFm : Nat → D → Bool
  | k + 1, .tup (.str w :: ds) =>
    if w = "same" then (match ds with | [a] => isKd k W3 a | _ => false)
    else if w = "then" then (match ds with | [a, b] => isFm k a && isNm b | _ => false)
    else decide (w ∈ W3) && (decide (ds.length = wd w) && (ds.all (isFm k) && ds.any nsame))
  | _, _ => false
theorem fm_head (e : isFm k d = true) : ∃ w r, d = .tup (.str w :: r) := by
  cases k with
  | zero => simp [isFm] at e
  | succ k =>
    match d, e with
    | .tup (.str w :: r), _ => exact ⟨w, r, rfl⟩
theorem isFm_at (hd : ∀ ds, d ≠ .tup ds) : isFm k d = false := by
  cases k with
  | zero => cases d <;> rfl
  | succ k => cases d <;> first | rfl | exact absurd rfl (hd _)
theorem is_form_ok : ∀ (k : Nat) (d : D) (j : Nat), trk k d = true → callN tab (j + k + 3) "is_form" [d] h = .ok (.bl (isFm k d)) h := by
  intro k
  induction k with
  | zero =>
    intro d j tr
    rw [call_at t_is_form rfl]
    cases d with
    | str x => simp [fd_is_form, b_is_form, startR, zSeq_at, isFm]
    | non => simp [fd_is_form, b_is_form, startR, zSeq_at, isFm]
    | bl b => simp [fd_is_form, b_is_form, startR, zSeq_at, isFm]
    | int b => simp [fd_is_form, b_is_form, startR, zSeq_at, isFm]
    | tup b => simp [trk] at tr
    | lst b => simp [fd_is_form, b_is_form, startR, zSeq_at, isFm]
    | dct b => simp [fd_is_form, b_is_form, startR, zSeq_at, isFm]
    | _ => simp [trk] at tr
  | succ k ih =>
    intro d j tr
    rw [show j + (k + 1) + 3 = (j + k + 3) + 1 by omega, call_at t_is_form rfl]
    cases d with
    | str x => simp [fd_is_form, b_is_form, startR, zSeq_at, isFm]
    | non => simp [fd_is_form, b_is_form, startR, zSeq_at, isFm]
    | bl b => simp [fd_is_form, b_is_form, startR, zSeq_at, isFm]
    | int b => simp [fd_is_form, b_is_form, startR, zSeq_at, isFm]
    | lst b => simp [fd_is_form, b_is_form, startR, zSeq_at, isFm]
    | dct b => simp [fd_is_form, b_is_form, startR, zSeq_at, isFm]
    | obj b c => simp [trk] at tr
    | ref b => simp [trk] at tr
    | scr b => simp [trk] at tr
    | val b => simp [trk] at tr
    | tup ds =>
      obtain ⟨k', e, hl, hp⟩ := tr_tup tr
      obtain rfl : k = k' := by omega
      match ds, hl, hp with
      | [], hl, hp => simp [fd_is_form, b_is_form, startR, zSeq_at, isFm]
      | [a], hl, hp =>
        have e : isFm (k + 1) (.tup [a]) = false := by
          cases a <;> first | rfl | skip
          simp only [isFm, List.length_nil, List.any_nil, Bool.and_false]
          split
          · rfl
          · split <;> rfl
        rw [e]
        simp [fd_is_form, b_is_form, startR, zSeq_at]
      | a :: b :: r, hl, hp =>
        have n2 : ¬ ((r.length : Int) + 1 + 1 < 2) := by omega
        cases a with
        | str w =>
          by_cases hs : w = "same"
          · subst hs
            have hk : callN tab (j + k + 3) "is_kind" [b] h = .ok (.bl (isKd k W3 b)) h := by
              have z := is_kind_ok (h := h) k b (j + 1) (hp b (by simp))
              rwa [show j + 1 + k + 2 = j + k + 3 by omega] at z
            cases r with
            | nil => simp [fd_is_form, b_is_form, startR, zSeq_at, isFm, hk]
            | cons c r =>
              have n3 : ¬ ((r.length : Int) + 1 + 1 + 1 = 2) := by omega
              have n4 : ¬ ((r.length : Int) + 1 + 1 + 1 < 2) := by omega
              simp [fd_is_form, b_is_form, startR, zSeq_at, isFm, n3, n4]
          by_cases ht : w = "then"
          · subst ht
            match r, hl, hp with
            | [], hl, hp => simp [fd_is_form, b_is_form, startR, zSeq_at, hs, isFm]
            | [c], hl, hp =>
              have hf := ih b j (hp b (by simp))
              have hn : callN tab (j + k + 3) "is_name" [c] h = .ok (.bl (isNm c)) h := is_name_ok (j := j + k + 2) (hp c (by simp))
              cases q : isFm k b with
              | true => simp [fd_is_form, b_is_form, startR, zSeq_at, hs, isFm, hf, hn, q]
              | false => simp [fd_is_form, b_is_form, startR, zSeq_at, hs, isFm, hf, hn, q]
            | c :: c2 :: r, hl, hp =>
              have n3 : ¬ ((r.length : Int) + 1 + 1 + 1 + 1 = 3) := by omega
              have n4 : ¬ ((r.length : Int) + 1 + 1 + 1 + 1 < 2) := by omega
              simp [fd_is_form, b_is_form, startR, zSeq_at, hs, isFm, n3, n4]
          have hw : callN tab (j + k + 3) "is_word" [.str w] h = .ok (.bl (isWd (.str w))) h := is_word_ok (j := j + k + 2) (hp _ (List.mem_cons_self ..))
          rcases lk2 w with ⟨e1, e2⟩ | ⟨e1, e2⟩
          · have hwd : isWd (.str w) = true := by simpa [isWd] using e1
            by_cases hn : (b :: r).length = wd w
            · have hn2 : (r.length : Int) + 1 + 1 = (wd w : Int) + 1 := by rw [← hn]; simp
              have n3 : ¬ ((wd w : Int) + 1 < 2) := by simp only [List.length_cons] at hn; omega
              have hc : lcL (gN 1) yYes (xCall 1 (callN tab (j + k + 3) "is_form") (xCons (xV 1) xNil)) [some (D.tup (.str w :: b :: r)), none] (b :: r) h = .ok ((b :: r).map fun y => D.bl (isFm k y)) h := lc_mapD fun y hy => by
                simp [ih y j (hp y (List.mem_cons_of_mem _ hy))]
              have hz : sz (b :: r).length = true := sz_of (by simp only [List.length_cons] at hl ⊢; omega)
              simp only [List.length_cons] at hz
              simp only [fd_is_form, b_is_form, startR, isFm, hs, ht, if_false, e1, hn, decide_true, Bool.true_and]
              rw [zSeq_at]
              simp [n2, n3, hw, hwd, zSeq_at, e2, optD, hn2, hs, ht]
              rw [if_pos hz, hc]
              simp only [noX_ok, bind_ok, lcF_at, map_bl, all_at, all_id, isB_at]
              cases q : (b :: r).all (isFm k) with
              | true =>
                have hc2 : lcL (gN 1) yYes (xBin neD (xIdx (xV 1) (xC (.int 0))) (xC (.str "same"))) [some (D.tup (.str w :: b :: r)), none] (b :: r) h = .ok ((b :: r).map fun y => D.bl (nsame y)) h := lc_mapD fun y hy => by
                  obtain ⟨w2, r2, rfl⟩ := fm_head (List.all_eq_true.mp q y hy)
                  simp [nsame]
                simp only [if_true, hz, hc2, noX_ok, bind_ok, lcF_at, map_bl, any_at, any_id, of_ok, endB_rt]
                have q2 : (isFm k b && r.all (isFm k)) = true := q
                have q3 : isFm k b = true ∧ ∀ x ∈ r, isFm k x = true := by simpa using q2
                simp [q3.1]
                intro _ _
                exact q3.2 _
              | false =>
                simp only [Bool.false_eq_true, if_false, of_ok, endB_rt]
                have q2 : (isFm k b && r.all (isFm k)) = false := q
                rw [q2]
                rfl
            · have hn2 : ¬ (r.length : Int) + 1 + 1 = (wd w : Int) + 1 := by simp only [List.length_cons] at hn; omega
              simp only [fd_is_form, b_is_form, startR, isFm, hs, ht, if_false, e1, hn, decide_false, Bool.false_and, Bool.and_false]
              rw [zSeq_at]
              simp [n2, hw, hwd, zSeq_at, e2, optD, hn2, hs, ht]
          · have hwd : isWd (.str w) = false := by simpa [isWd] using e1
            simp only [fd_is_form, b_is_form, startR, isFm, hs, ht, if_false, e1, decide_false, Bool.false_and]
            rw [zSeq_at]
            simp [n2, hw, hwd, zSeq_at, hs, ht]
        | non => simp [fd_is_form, b_is_form, startR, isFm, zSeq_at, n2]
        | bl _ => simp [fd_is_form, b_is_form, startR, isFm, zSeq_at, n2]
        | int _ => simp [fd_is_form, b_is_form, startR, isFm, zSeq_at, n2]
        | tup _ => simp [fd_is_form, b_is_form, startR, isFm, zSeq_at, n2]
        | lst _ => simp [fd_is_form, b_is_form, startR, isFm, zSeq_at, n2]
        | dct _ => simp [fd_is_form, b_is_form, startR, isFm, zSeq_at, n2]
        | obj b c => exact absurd (hp _ (List.mem_cons_self ..)) (by cases k <;> simp [trk])
        | ref b => exact absurd (hp _ (List.mem_cons_self ..)) (by cases k <;> simp [trk])
        | scr b => exact absurd (hp _ (List.mem_cons_self ..)) (by cases k <;> simp [trk])
        | val b => exact absurd (hp _ (List.mem_cons_self ..)) (by cases k <;> simp [trk])
end K11
namespace K11
open PySem PySem.Spec PyProof.Rows L2 Ax
variable {h : Hh} {j k : Nat} {d : D}
theorem filt_all {p : D → Bool} {l : List D} : (l.filter fun y => !p y).isEmpty = l.all p := by
  induction l with
  | nil => rfl
  | cons c l ih => by_cases q : p c = true <;> simp [List.filter_cons, q, ih]
theorem filt_any {p : D → Bool} {l : List D} : (!(l.filter p).isEmpty) = l.any p := by
  induction l with
  | nil => rfl
  | cons c l ih => by_cases q : p c = true <;> simp [List.filter_cons, q, ih]
theorem fm_len {ds : List D} (hln : ¬ (ds.length = 2 ∨ ds.length = 3)) : isFm k (.tup ds) = false := by
  cases k with
  | zero => rfl
  | succ k =>
    match ds, hln with
    | [], _ => rfl
    | .str w :: r, hln =>
      have e : ¬ r.length = wd w := by
        simp only [List.length_cons] at hln
        unfold wd
        split <;> omega
      simp only [isFm, e, decide_false, Bool.false_and, Bool.and_false]
      split
      · match r, hln with
        | [], _ => rfl
        | [a], h => simp at h
        | a :: b :: r, _ => rfl
      · split
        · match r, hln with
          | [], _ => rfl
          | [a], h => simp at h
          | [a, b], h => simp at h
          | a :: b :: c :: r, _ => rfl
        · rfl
    | .non :: r, _ | .bl _ :: r, _ | .int _ :: r, _ | .tup _ :: r, _ | .lst _ :: r, _ | .dct _ :: r, _ | .obj _ _ :: r, _ | .ref _ :: r, _ | .scr _ :: r, _ | .val _ :: r, _ => rfl
theorem law_is_form_ok : ∀ (k : Nat) (d : D) (j : Nat), trk k d = true → callN tab (j + k + 3) "_law_is_form" [d] h = .ok (.bl (isFm k d)) h := by
  intro k
  induction k with
  | zero =>
    intro d j tr
    rw [call_at t__law_is_form rfl]
    cases d with
    | str x => simp [fd__law_is_form, b__law_is_form, startR, zSeq_at, isFm]
    | non => simp [fd__law_is_form, b__law_is_form, startR, zSeq_at, isFm]
    | bl b => simp [fd__law_is_form, b__law_is_form, startR, zSeq_at, isFm]
    | int b => simp [fd__law_is_form, b__law_is_form, startR, zSeq_at, isFm]
    | tup b => simp [trk] at tr
    | lst b => simp [fd__law_is_form, b__law_is_form, startR, zSeq_at, isFm]
    | dct b => simp [fd__law_is_form, b__law_is_form, startR, zSeq_at, isFm]
    | _ => simp [trk] at tr
  | succ k ih =>
    intro d j tr
    rw [show j + (k + 1) + 3 = (j + k + 3) + 1 by omega, call_at t__law_is_form rfl]
    cases d with
    | str x => simp [fd__law_is_form, b__law_is_form, startR, zSeq_at, isFm]
    | non => simp [fd__law_is_form, b__law_is_form, startR, zSeq_at, isFm]
    | bl b => simp [fd__law_is_form, b__law_is_form, startR, zSeq_at, isFm]
    | int b => simp [fd__law_is_form, b__law_is_form, startR, zSeq_at, isFm]
    | lst b => simp [fd__law_is_form, b__law_is_form, startR, zSeq_at, isFm]
    | dct b => simp [fd__law_is_form, b__law_is_form, startR, zSeq_at, isFm]
    | obj b c => simp [trk] at tr
    | ref b => simp [trk] at tr
    | scr b => simp [trk] at tr
    | val b => simp [trk] at tr
    | tup ds =>
      obtain ⟨k', e, hl, hp⟩ := tr_tup tr
      obtain rfl : k = k' := by omega
      by_cases hln : ds.length = 2 ∨ ds.length = 3
      · obtain ⟨a, b, r, rfl⟩ : ∃ a b r, ds = a :: b :: r := by
          match ds, hln with
          | a :: b :: r, _ => exact ⟨a, b, r, rfl⟩
          | [a], h => simp at h
          | [], h => simp at h
        have n23 : ((r.length : Int) + 1 + 1 = 2 ∨ (r.length : Int) + 1 + 1 = 3) := by simp only [List.length_cons] at hln; omega
        have n23' : (decide ((r.length : Int) + 1 + 1 = 2) || decide ((r.length : Int) + 1 + 1 = 3)) = true := by simpa using n23
        cases a with
        | str w =>
          by_cases hs : w = "same"
          · subst hs
            have hk : callN tab (j + k + 3) "_law_is_kind" [b, .lst [.str "list", .str "pair", .str "fun"]] h = .ok (.bl (isKd k W3 b)) h := by
              have z := law_is_kind_ok (h := h) (ws := W3) (fun _ z => z) (fun x => nin_W3) k b (j + 1) (hp b (by simp))
              rwa [show j + 1 + k + 2 = j + k + 3 by omega] at z
            cases r with
            | nil => simp [fd__law_is_form, b__law_is_form, startR, zSeq_at, isFm, hk, nin23, sz_of]
            | cons c r =>
              have n3 : ¬ ((r.length : Int) + 1 + 1 + 1 = 2) := by omega
              have n4 : ((r.length : Int) + 1 + 1 + 1 = 3) := by simp only [List.length_cons] at n23; omega
              simp [fd__law_is_form, b__law_is_form, startR, zSeq_at, isFm, n3, n4, nin23, sz_of]
          by_cases ht : w = "then"
          · subst ht
            match r, hl, hp with
            | [], hl, hp => simp [fd__law_is_form, b__law_is_form, startR, zSeq_at, hs, isFm, nin23, sz_of]
            | [c], hl, hp =>
              have hf := ih b j (hp b (by simp))
              have hn : callN tab (j + k + 3) "_law_is_name" [c] h = .ok (.bl (isNm c)) h := law_is_name_ok (j := j + k + 2) (hp c (by simp))
              cases q : isFm k b with
              | true => simp [fd__law_is_form, b__law_is_form, startR, zSeq_at, hs, isFm, hf, hn, q, nin23, sz_of]
              | false => simp [fd__law_is_form, b__law_is_form, startR, zSeq_at, hs, isFm, hf, hn, q, nin23, sz_of]
            | c :: c2 :: r, hl, hp => exact absurd hln (by simp)
          by_cases e1 : w ∈ W3
          · have hz : sz (b :: r).length = true := sz_of (by simp only [List.length_cons] at hl ⊢; omega)
            simp only [List.length_cons] at hz
            by_cases hn : (b :: r).length = wd w
            · have hc : lcL (gN 1) (yNot (yV (xCall 1 (callN tab (j + k + 3) "_law_is_form") (xCons (xV 1) xNil)))) (xV 1) [some (D.tup (.str w :: b :: r)), none] (b :: r) h = .ok ((b :: r).filter fun y => !isFm k y) h := lc_filter (fun y hy => by
                simp [ih y j (hp y (List.mem_cons_of_mem _ hy))]) fun y hy => by simp
              have fin : zSeq (zIf (yV (xBin neD (xLcG lcF (iV (xSlc (xV 0) (xSome (xC (.int 1))) (xNo))) [1] (gN 1) (yNot (yV (xCall 1 (callN tab (j + k + 3) "_law_is_form") (xCons (xV 1) (xNil))))) (xV 1)) (xLst (xNil)))) (zRet (xC (.bl false))) (zNext))
                (zRet (xBin neD (xLcG lcF (iV (xSlc (xV 0) (xSome (xC (.int 1))) (xNo))) [1] (gN 1) (yV (xBin neD (xIdx (xV 1) (xC (.int 0))) (xC (.str "same")))) (xV 1)) (xLst (xNil)))) [some (D.tup (.str w :: b :: r)), none] h = .rt (.bl (isFm (k + 1) (.tup (.str w :: b :: r)))) h := by
                have eF : isFm (k + 1) (.tup (.str w :: b :: r)) = ((b :: r).all (isFm k) && (b :: r).any nsame) := by
                  simp only [isFm, hs, ht, if_false, e1, hn, decide_true, Bool.true_and]
                rw [eF]
                cases q : (b :: r).all (isFm k) with
                | true =>
                  have hc2 : lcL (gN 1) (yV (xBin neD (xIdx (xV 1) (xC (.int 0))) (xC (.str "same")))) (xV 1) [some (D.tup (.str w :: b :: r)), none] (b :: r) h = .ok ((b :: r).filter nsame) h := lc_filter (fun y hy => by
                    obtain ⟨w2, r2, rfl⟩ := fm_head (List.all_eq_true.mp q y hy)
                    simp [nsame]) fun y hy => by simp
                  have q2 : ((b :: r).filter fun y => !isFm k y).isEmpty = true := by rw [filt_all]; exact q
                  rw [zSeq_at]
                  simp only [zIf_at, yV_at, xBin_at, lc_at, iV_at, xSlc_at, xV_at, List.getElem?_cons_zero, bind_ok, xSome_at, xC_at, isI_at, xNo_at, slc_t1, items_tup, List.length_cons, hz, if_true, wipe1, List.set_cons_succ, List.set_cons_zero, hc, hc2, noX_ok, lcF_at, xLst_at, xNil_at, List.length_nil, sz_of (Nat.zero_le 1000), ne_nil, isB_at, of_ok, q2, Bool.not_true, Bool.false_eq_true, if_false, zNext_at, zRet_at, filt_any, Bool.true_and]
                | false =>
                  have q2 : ((b :: r).filter fun y => !isFm k y).isEmpty = false := by rw [filt_all]; exact q
                  rw [zSeq_at]
                  simp only [zIf_at, yV_at, xBin_at, lc_at, iV_at, xSlc_at, xV_at, List.getElem?_cons_zero, bind_ok, xSome_at, xC_at, isI_at, xNo_at, slc_t1, items_tup, List.length_cons, hz, if_true, wipe1, List.set_cons_succ, List.set_cons_zero, hc, noX_ok, lcF_at, xLst_at, xNil_at, List.length_nil, sz_of (Nat.zero_le 1000), ne_nil, isB_at, of_ok, q2, Bool.not_false, zRet_at, Bool.false_and]
              have fin2 := congrArg endB fin
              rw [endB_rt] at fin2
              rw [← fin2]
              by_cases hxl2 : w = "list"
              · have hn2 : (r.length : Int) + 1 + 1 = 2 := by simp only [List.length_cons, wd, hxl2, if_true] at hn; omega
                subst hxl2
                simp only [fd__law_is_form, b__law_is_form, startR]
                rw [zSeq_at]
                simp [zSeq_at, nin23, nin_T3, hs, ht, hn2, sz_of]
              · have hn2 : (r.length : Int) + 1 + 1 = 3 := by simp only [List.length_cons, wd, hxl2, if_false] at hn; omega
                simp only [fd__law_is_form, b__law_is_form, startR]
                rw [zSeq_at]
                have e2 : w = "pair" ∨ w = "fun" := by simpa [hxl2] using e1
                simp [zSeq_at, nin23, nin_T3, hs, ht, hxl2, hn2, e2, sz_of]
            · simp only [fd__law_is_form, b__law_is_form, startR, isFm, hs, ht, if_false, e1, hn, decide_false, Bool.false_and, Bool.and_false]
              rw [zSeq_at]
              by_cases hxl2 : w = "list"
              · have hn2 : ¬ (r.length : Int) + 1 + 1 = 2 := by simp only [List.length_cons, wd, hxl2, if_true] at hn; omega
                have hn3 : (r.length : Int) + 1 + 1 = 3 := by omega
                subst hxl2
                simp [zSeq_at, nin23, nin_T3, hs, ht, hn2, hn3, sz_of]
              · have hn2 : ¬ (r.length : Int) + 1 + 1 = 3 := by simp only [List.length_cons, wd, hxl2, if_false] at hn; omega
                have hn3 : (r.length : Int) + 1 + 1 = 2 := by omega
                have e2 : w = "pair" ∨ w = "fun" := by simpa [hxl2] using e1
                simp [zSeq_at, nin23, nin_T3, hs, ht, hxl2, hn2, hn3, e2, sz_of]
          · simp only [fd__law_is_form, b__law_is_form, startR, isFm, hs, ht, if_false, e1, decide_false, Bool.false_and]
            rw [zSeq_at]
            have e3 : ¬ w = "list" ∧ ¬ w = "pair" ∧ ¬ w = "fun" := by simpa using e1
            simp [zSeq_at, nin23, n23', n23, nin_T3, e3, hs, ht, sz_of]
        | non => simp [fd__law_is_form, b__law_is_form, startR, isFm, zSeq_at, nin23, n23', n23, sz_of]
        | bl _ => simp [fd__law_is_form, b__law_is_form, startR, isFm, zSeq_at, nin23, n23', n23, sz_of]
        | int _ => simp [fd__law_is_form, b__law_is_form, startR, isFm, zSeq_at, nin23, n23', n23, sz_of]
        | tup _ => simp [fd__law_is_form, b__law_is_form, startR, isFm, zSeq_at, nin23, n23', n23, sz_of]
        | lst _ => simp [fd__law_is_form, b__law_is_form, startR, isFm, zSeq_at, nin23, n23', n23, sz_of]
        | dct _ => simp [fd__law_is_form, b__law_is_form, startR, isFm, zSeq_at, nin23, n23', n23, sz_of]
        | obj b c => exact absurd (hp _ (List.mem_cons_self ..)) (by cases k <;> simp [trk])
        | ref b => exact absurd (hp _ (List.mem_cons_self ..)) (by cases k <;> simp [trk])
        | scr b => exact absurd (hp _ (List.mem_cons_self ..)) (by cases k <;> simp [trk])
        | val b => exact absurd (hp _ (List.mem_cons_self ..)) (by cases k <;> simp [trk])
      · rw [fm_len hln]
        have n23 : (decide ((ds.length : Int) = 2) || decide ((ds.length : Int) = 3)) = false := by
          have h2 : ¬ (ds.length : Int) = 2 := by omega
          have h3 : ¬ (ds.length : Int) = 3 := by omega
          simp [h2, h3]
        simp [fd__law_is_form, b__law_is_form, startR, zSeq_at, nin23, n23, sz_of]
end K11
namespace K11
open PySem PySem.Spec PyProof.Rows L2 Ax
mutual
theorem toP_any {f : Nat → Option PyData} : ∀ {d : D} {p : PyData}, toP (fun _ => none) d = some p → toP f d = some p
  | .non, p, e => e
  | .bl _, p, e => e
  | .int _, p, e => e
  | .str _, p, e => e
  | .tup ds, p, e => by
    simp only [toP, Option.map_eq_some_iff] at e ⊢
    obtain ⟨ps, e1, e2⟩ := e
    exact ⟨ps, toPs_any e1, e2⟩
  | .lst ds, p, e => by
    simp only [toP, Option.map_eq_some_iff] at e ⊢
    obtain ⟨ps, e1, e2⟩ := e
    exact ⟨ps, toPs_any e1, e2⟩
  | .dct kds, p, e => by cases kds <;> exact e
  | .ref n, p, e => by simp [toP] at e
  | .obj _ _, p, e => e
  | .scr _, p, e => e
  | .val _, p, e => e
theorem toPs_any {f : Nat → Option PyData} : ∀ {ds : List D} {ps : List PyData}, toPs (fun _ => none) ds = some ps → toPs f ds = some ps
  | [], ps, e => e
  | d :: ds, ps, e => by
    simp only [toPs] at e ⊢
    split at e
    · rename_i p qs e1 e2
      rw [toP_any e1, toPs_any e2]
      exact e
    · cases e
end
abbrev cv : D → Option PyData := toP (fun _ => none)
abbrev cvs : List D → Option (List PyData) := toPs (fun _ => none)
theorem cvs_app {l r : List D} {ps qs : List PyData} (e1 : cvs l = some ps) (e2 : cvs r = some qs) : cvs (l ++ r) = some (ps ++ qs) := by
  induction l generalizing ps with
  | nil => cases e1; exact e2
  | cons a l ih =>
    simp only [cvs, toPs] at e1
    split at e1
    · rename_i p ps2 e3 e4
      cases e1
      have := ih e4
      simp only [cvs] at this
      simp only [cvs, List.cons_append, toPs, e3, this]
    · cases e1
theorem cvs_all {P : PyData → Prop} {ds : List D} (h : ∀ d ∈ ds, ∃ p, cv d = some p ∧ P p) : ∃ ps, cvs ds = some ps ∧ ps.length = ds.length ∧ ∀ p ∈ ps, P p := by
  induction ds with
  | nil => exact ⟨[], rfl, rfl, fun p hp => by cases hp⟩
  | cons a l ih =>
    obtain ⟨p, e, hp⟩ := h a (List.mem_cons_self ..)
    obtain ⟨ps, e2, l2, h2⟩ := ih fun d hd => h d (List.mem_cons_of_mem _ hd)
    refine ⟨p :: ps, ?_, by simp [l2], fun q hq => ?_⟩
    · simp only [cv, cvs] at e e2
      simp only [cvs, toPs, e, e2]
    · rcases List.mem_cons.mp hq with rfl | hq
      · exact hp
      · exact h2 q hq
/-- how a thing's data are -/
structure Sh (n m : Nat) (p : PyData) : Prop where
  sh : p.showable = true
  le : p.shown.length ≤ n
  dp : p.depth ≤ m
structure Cl (p : PyData) : Prop where
  nd : p.hasDict = false
  nl : noL p = true
theorem sh_all {ps : List PyData} {n m : Nat} (h : ∀ p ∈ ps, Sh n m p) : PyData.showableAll ps = true ∧ PyData.depthAll ps ≤ m ∧ piled (PyData.shownAll ps) ≤ ps.length * (n + 2) := by
  induction ps with
  | nil => exact ⟨rfl, Nat.zero_le _, by simp [PyData.shownAll, piled]⟩
  | cons p ps ih =>
    obtain ⟨h1, h2, h3⟩ := ih fun q hq => h q (List.mem_cons_of_mem _ hq)
    have hp := h p (List.mem_cons_self ..)
    refine ⟨by simp only [PyData.showableAll, hp.sh, h1, Bool.and_self], by simp only [PyData.depthAll]; exact Nat.max_le.mpr ⟨hp.dp, h2⟩, ?_⟩
    simp only [PyData.shownAll, piled_cons, List.length_cons, Nat.add_mul]
    have := hp.le
    omega
theorem cl_all {ps : List PyData} (h : ∀ p ∈ ps, Cl p) : PyData.hasDictAll ps = false ∧ noLs ps = true := by
  induction ps with
  | nil => exact ⟨rfl, rfl⟩
  | cons p ps ih =>
    obtain ⟨h1, h2⟩ := ih fun q hq => h q (List.mem_cons_of_mem _ hq)
    have hp := h p (List.mem_cons_self ..)
    exact ⟨by simp only [PyData.hasDictAll, hp.nd, h1, Bool.or_self], by simp only [noLs, hp.nl, h2, Bool.and_self]⟩
theorem tupleText_le (ts : List Str) : (tupleText ts).length ≤ piled ts + 3 := by
  unfold tupleText
  rw [strLen_append, strLen_append]
  have e1 : (("(" : String) : Str).length = 1 := rfl
  have e2 : ((if ts.length == 1 then ",)" else ")" : String) : Str).length ≤ 2 := by split <;> decide
  by_cases h : ts = []
  · subst h
    simp [piled, Str.join] at *
    decide
  · have := join_length_add ts h
    omega
theorem sh_tup {ps : List PyData} {n m : Nat} (h : ∀ p ∈ ps, Sh n m p) : Sh (ps.length * (n + 2) + 3) (m + 1) (.tuple ps) := by
  obtain ⟨h1, h2, h3⟩ := sh_all h
  refine ⟨h1, ?_, ?_⟩
  · simp only [PyData.shown]
    have := tupleText_le (PyData.shownAll ps)
    omega
  · simp only [PyData.depth]
    omega
theorem cl_tup {ps : List PyData} (h : ∀ p ∈ ps, Cl p) : Cl (.tuple ps) := by
  obtain ⟨h1, h2⟩ := cl_all h
  exact ⟨by simpa only [PyData.hasDict] using h1, by simpa only [noL] using h2⟩
end K11
namespace K11
open PySem PySem.Spec PyProof.Rows L2 Ax
theorem Sh.mono {n m n' m' : Nat} {p : PyData} (s : Sh n m p) (h1 : n ≤ n') (h2 : m ≤ m') : Sh n' m' p := ⟨s.sh, Nat.le_trans s.le h1, Nat.le_trans s.dp h2⟩
theorem sh2 {p q : PyData} {a b m : Nat} (h1 : Sh a m p) (h2 : Sh b m q) : Sh (a + b + 7) (m + 1) (.tuple [p, q]) := by
  refine ⟨by simp only [PyData.showable, PyData.showableAll, h1.sh, h2.sh, Bool.and_self], ?_, ?_⟩
  · simp only [PyData.shown, PyData.shownAll]
    have := tupleText_le [p.shown, q.shown]
    simp only [piled_cons, piled_nil] at this
    have := h1.le
    have := h2.le
    omega
  · simp only [PyData.depth, PyData.depthAll]
    have := h1.dp
    have := h2.dp
    omega
theorem sh3 {p q r : PyData} {a b c m : Nat} (h1 : Sh a m p) (h2 : Sh b m q) (h3 : Sh c m r) : Sh (a + b + c + 9) (m + 1) (.tuple [p, q, r]) := by
  refine ⟨by simp only [PyData.showable, PyData.showableAll, h1.sh, h2.sh, h3.sh, Bool.and_self], ?_, ?_⟩
  · simp only [PyData.shown, PyData.shownAll]
    have := tupleText_le [p.shown, q.shown, r.shown]
    simp only [piled_cons, piled_nil] at this
    have := h1.le
    have := h2.le
    have := h3.le
    omega
  · simp only [PyData.depth, PyData.depthAll]
    have := h1.dp
    have := h2.dp
    have := h3.dp
    omega
theorem sh_str {x : Str} {n : Nat} (s : SS n x) : Sh (10 * n + 2) 0 (.str x) := by
  refine ⟨rfl, ?_, Nat.le_refl _⟩
  simp only [PyData.shown]
  have := PySem.StrLaws.reprText_len x fun c hc => Nat.lt_trans (s.sm c hc) (by decide)
  have := s.le
  omega
def t3 : Nat → D → Bool
  | _, .str x => decide (x.length ≤ 20) && x.cps.toList.all fun c => decide (c < 256)
  | k + 1, .tup ds => decide (ds.length ≤ 3) && ds.all (t3 k)
  | _, _ => false
theorem t3_str {x : Str} {k : Nat} : t3 k (.str x) = true ↔ SS 20 x := by
  have e : t3 k (.str x) = (decide (x.length ≤ 20) && x.cps.toList.all fun c => decide (c < 256)) := by cases k <;> rfl
  rw [e]
  simp only [Bool.and_eq_true, decide_eq_true_eq, List.all_eq_true]
  exact ⟨fun h => ⟨h.1, h.2⟩, fun h => ⟨h.le, h.sm⟩⟩
theorem t3_tup {ds : List D} {k : Nat} (h : t3 k (.tup ds) = true) : ∃ k', k = k' + 1 ∧ ds.length ≤ 3 ∧ ∀ d ∈ ds, t3 k' d = true := by
  cases k with
  | zero => simp [t3] at h
  | succ k =>
    simp only [t3, Bool.and_eq_true, decide_eq_true_eq, List.all_eq_true] at h
    exact ⟨k, rfl, h.1, h.2⟩
theorem t3_mono : ∀ {k k' : Nat} {d : D}, k ≤ k' → t3 k d = true → t3 k' d = true := by
  intro k
  induction k with
  | zero =>
    intro k' d _ h
    cases d with
    | str x => exact t3_str.mpr (t3_str.mp h)
    | _ => simp [t3] at h
  | succ k ih =>
    intro k' d hk h
    cases d with
    | str x => exact t3_str.mpr (t3_str.mp h)
    | tup ds =>
      obtain ⟨k2, e, h1, h2⟩ := t3_tup h
      obtain rfl : k = k2 := by omega
      obtain ⟨k3, rfl⟩ : ∃ k3, k' = k3 + 1 := ⟨k' - 1, by omega⟩
      simp only [t3, Bool.and_eq_true, decide_eq_true_eq, List.all_eq_true]
      exact ⟨h1, fun d hd => ih (by omega) (h2 d hd)⟩
    | _ => simp [t3] at h
theorem t3_trk : ∀ {k : Nat} {d : D}, t3 k d = true → trk k d = true := by
  intro k
  induction k with
  | zero =>
    intro d h
    cases d with
    | str x =>
      have := (t3_str.mp h).le
      simp only [trk, decide_eq_true_eq]
      omega
    | _ => simp [t3] at h
  | succ k ih =>
    intro d h
    cases d with
    | str x =>
      have := (t3_str.mp h).le
      simp only [trk, decide_eq_true_eq]
      omega
    | tup ds =>
      obtain ⟨k2, e, h1, h2⟩ := t3_tup h
      obtain rfl : k = k2 := by omega
      simp only [trk, Bool.and_eq_true, decide_eq_true_eq, List.all_eq_true]
      exact ⟨by omega, fun d hd => ih (h2 d hd)⟩
    | _ => simp [t3] at h
theorem trk_mono : ∀ {k k' : Nat} {d : D}, k ≤ k' → trk k d = true → trk k' d = true := by
  intro k
  induction k with
  | zero =>
    intro k' d _ h
    cases d <;> first | (cases k' <;> exact h) | (simp [trk] at h)
  | succ k ih =>
    intro k' d hk h
    cases d with
    | tup ds =>
      obtain ⟨k2, e, h1, h2⟩ := tr_tup h
      obtain rfl : k = k2 := by omega
      obtain ⟨k3, rfl⟩ : ∃ k3, k' = k3 + 1 := ⟨k' - 1, by omega⟩
      simp only [trk, Bool.and_eq_true, decide_eq_true_eq, List.all_eq_true]
      exact ⟨h1, fun d hd => ih (by omega) (h2 d hd)⟩
    | _ => first | (cases k' <;> exact h) | (simp [trk] at h)
/-- a clean thing -/
structure Th (n k : Nat) (d : D) : Prop where
  t : t3 k d = true
  ex : ∃ p, cv d = some p ∧ Sh n k p ∧ Cl p
theorem Th.mono {n k n' k' : Nat} {d : D} (t : Th n k d) (h1 : n ≤ n') (h2 : k ≤ k') : Th n' k' d := by
  obtain ⟨p, e, s, c⟩ := t.ex
  exact ⟨t3_mono h2 t.t, p, e, s.mono h1 h2, c⟩
theorem th_str {x : Str} {n k : Nat} (s : SS n x) (hn : n ≤ 20) : Th (10 * n + 2) k (.str x) :=
  ⟨t3_str.mpr ⟨Nat.le_trans s.le hn, s.sm⟩, .str x, rfl, (sh_str s).mono (Nat.le_refl _) (Nat.zero_le _), rfl, rfl⟩
theorem th2 {a b : D} {n1 n2 k : Nat} (ha : Th n1 k a) (hb : Th n2 k b) : Th (n1 + n2 + 7) (k + 1) (.tup [a, b]) := by
  obtain ⟨p, e1, s1, c1⟩ := ha.ex
  obtain ⟨q, e2, s2, c2⟩ := hb.ex
  refine ⟨by simp [t3, ha.t, hb.t], .tuple [p, q], ?_, sh2 s1 s2, cl_tup fun x hx => ?_⟩
  · simp only [cv] at e1 e2
    simp only [cv, toP, toPs, e1, e2, Option.map_some]
  · simp only [List.mem_cons, List.not_mem_nil, or_false] at hx
    rcases hx with rfl | rfl
    · exact c1
    · exact c2
theorem th3 {a b c : D} {n1 n2 n3 k : Nat} (ha : Th n1 k a) (hb : Th n2 k b) (hc : Th n3 k c) : Th (n1 + n2 + n3 + 9) (k + 1) (.tup [a, b, c]) := by
  obtain ⟨p, e1, s1, c1⟩ := ha.ex
  obtain ⟨q, e2, s2, c2⟩ := hb.ex
  obtain ⟨r, e3, s3, c3⟩ := hc.ex
  refine ⟨by simp [t3, ha.t, hb.t, hc.t], .tuple [p, q, r], ?_, sh3 s1 s2 s3, cl_tup fun x hx => ?_⟩
  · simp only [cv] at e1 e2 e3
    simp only [cv, toP, toPs, e1, e2, e3, Option.map_some]
  · simp only [List.mem_cons, List.not_mem_nil, or_false] at hx
    rcases hx with rfl | rfl | rfl
    · exact c1
    · exact c2
    · exact c3
/-- any thing that is asked -/
structure Ask (d : D) : Prop where
  t : trk 50 d = true
  ex : ∃ p, cv d = some p ∧ Sh 16000000 150 p ∧ (p.hasDict = false ∨ noL p = true)
theorem Ask.repr {d : D} (a : Ask d) : ∃ s, ∀ h, biS .repr [d] h = .ok (.str s) h := by
  obtain ⟨p, e, s, c⟩ := a.ex
  refine ⟨p.shown, fun h => ?_⟩
  have e2 : toD h d = some p := toP_any e
  have hz : sz p.shown.length = true := by
    simp only [sz, decide_eq_true_eq]
    exact Nat.le_trans s.le (by decide)
  have hc : (!p.hasDict || noL p) = true := by
    rcases c with c | c
    · simp [c]
    · simp [c]
  simp only [biS, bRepr, e2, s.sh, hc, hz, decide_eq_true s.dp, Bool.and_self, if_true]
theorem Th.ask {d : D} {n k : Nat} (t : Th n k d) (hn : n ≤ 16000000) (hk : k ≤ 50) : Ask d := by
  obtain ⟨p, e, s, c⟩ := t.ex
  exact ⟨trk_mono hk (t3_trk t.t), p, e, s.mono hn (by omega), .inl c.nd⟩
end K11
namespace K11
open PySem PySem.Spec PyProof.Rows L2 Ax
theorem tk : tab "_law_take" = some ⟨2, 7, bTake⟩ := t__law_take
theorem t1 : tab "_law_one" = some ⟨2, 2, bOne⟩ := t__law_one
theorem tn : tab "_law_names" = some ⟨2, 8, bNames⟩ := t__law_names
theorem tb : tab "_law_bag" = some ⟨1, 2, bBag⟩ := t__law_bag
/-- names to draw from -/
structure Nms (xs : List Str) : Prop where
  pos : 0 < xs.length
  few : xs.length ≤ 1000
  ss : ∀ x ∈ xs, SS 8 x
theorem one_nm {xs : List Str} (N : Nms xs) {j : Nat} {o : O} {r : Hh} (B : Bg o) : ∃ x o', callN tab (j + 2) "_law_one" [.ref 0, .lst (xs.map .str)] (o :: r) = .ok (.str x) (o' :: r) ∧ SS 8 x ∧ Bg o' := by
  obtain ⟨d, o', e, hm, B'⟩ := one_lst (j := j) (r := r) tk t1 B (xs := xs.map .str) (by rw [List.length_map]; exact N.pos) (by rw [List.length_map]; exact N.few)
  obtain ⟨x, hx, rfl⟩ := List.mem_map.mp hm
  exact ⟨x, o', e, N.ss x hx, B'⟩
theorem th_word {w : Str} {k : Nat} (h : ssB 4 w = true) : Th 42 k (.str w) := th_str (ss_of h) (by decide)
theorem any_kind_call {xs : List Str} (N : Nms xs) {r : Hh} : ∀ (u j : Nat) (o : O), 1 ≤ u → u ≤ 1000 → Bg o → ∃ d o', callN tab (j + u + 2) "_law_any_kind" [.ref 0, .lst (xs.map .str), .int u] (o :: r) = .ok d (o' :: r) ∧ Th (160 * u) u d ∧ Bg o' := by
  intro u
  induction u using Nat.strongRecOn with
  | ind u ih =>
    intro j o hu hu2 B
    obtain ⟨v, o1, e1, B1, v0, v1⟩ := take_call tk (k := j + u) (r := r) B (m := 5) (by decide) (by decide)
    obtain ⟨x, ox, ex, sx, Bx⟩ := one_nm N (j := j + u - 1) (r := r) B1
    rw [show j + u - 1 + 2 = j + u + 1 by omega] at ex
    rw [call_at t__law_any_kind rfl]
    simp only [fd__law_any_kind, b__law_any_kind]
    rw [seq_nx (ρ1 := [some (.ref 0), some (.lst (xs.map .str)), some (.int u), some (.int v), none, none]) (h1 := o1 :: r) (by simp [startR, e1])]
    have h2 : sz 2 = true := by decide
    have h3 : sz 3 = true := by decide
    by_cases c1 : u < 2 ∨ v < 2
    · have c1' : ((u : Int) < 2 ∨ v < 2) := by omega
      refine ⟨.str x, ox, ?_, (th_str sx (by decide)).mono (by omega) (by omega), Bx⟩
      rw [seq_rt (d := .str x) (h1 := ox :: r)]
      · rfl
      · by_cases c2 : (u : Int) < 2
        · simp [c2, ex]
        · have : v < 2 := by omega
          simp [c2, this, ex]
    · have c1a : ¬ (u : Int) < 2 := by omega
      have c1b : ¬ v < 2 := by omega
      rw [seq_nx (ρ1 := [some (.ref 0), some (.lst (xs.map .str)), some (.int u), some (.int v), none, none]) (h1 := o1 :: r) (by simp [c1a, c1b])]
      by_cases c3 : v = 2 ∨ u < 3
      · obtain ⟨d, o2, e2, t2, B2⟩ := ih (u - 1) (by omega) j o1 (by omega) (by omega) B1
        have e2' : callN tab (j + u + 1) "_law_any_kind" [.ref 0, .lst (xs.map .str), .int ((u : Int) - 1)] (o1 :: r) = .ok d (o2 :: r) := by
          rw [show j + (u - 1) + 2 = j + u + 1 by omega, show ((u - 1 : Nat) : Int) = (u : Int) - 1 by omega] at e2
          exact e2
        refine ⟨.tup [.str "list", d], o2, ?_, ?_, B2⟩
        · rw [seq_rt (d := .tup [.str "list", d]) (h1 := o2 :: r)]
          · rfl
          · by_cases c4 : v = 2
            · simp [c4, e2', h2]
            · have : (u : Int) < 3 := by omega
              simp [c4, this, e2', h2]
        · have := th2 (th_word (w := "list") (k := u - 1) (by decide +kernel)) t2
          exact this.mono (by omega) (by omega)
      · have c3a : ¬ v = 2 := by omega
        have c3b : ¬ (u : Int) < 3 := by omega
        rw [seq_nx (ρ1 := [some (.ref 0), some (.lst (xs.map .str)), some (.int u), some (.int v), none, none]) (h1 := o1 :: r) (by simp [c3a, c3b])]
        obtain ⟨l, o2, e2, B2, l0, l1⟩ := take_call tk (k := j + u) (r := r) B1 (m := (u : Int) - 2) (by omega) (by omega)
        obtain ⟨ln, rfl⟩ := Int.eq_ofNat_of_zero_le l0
        rw [seq_nx (ρ1 := [some (.ref 0), some (.lst (xs.map .str)), some (.int u), some (.int v), some (.int (1 + (ln : Int))), none]) (h1 := o2 :: r) (by simp [e2])]
        obtain ⟨w, hw, hws⟩ : ∃ w : Str, idxD (.lst [.str "pair", .str "fun"]) (.int (v - 3)) (o2 :: r) = .ok (.str w) (o2 :: r) ∧ ssB 4 w = true := by
          by_cases c : v = 3
          · subst c
            exact ⟨"pair", rfl, by decide +kernel⟩
          · obtain rfl : v = 4 := by omega
            exact ⟨"fun", rfl, by decide +kernel⟩
        rw [seq_nx (ρ1 := [some (.ref 0), some (.lst (xs.map .str)), some (.int u), some (.int v), some (.int (1 + (ln : Int))), some (.str w)]) (h1 := o2 :: r) (by simp [h2, hw])]
        obtain ⟨d3, o3, e3, t3, B3⟩ := ih (1 + ln) (by omega) (j + u - 2 - ln) o2 (by omega) (by omega) B2
        obtain ⟨d4, o4, e4, t4, B4⟩ := ih (u - 1 - (1 + ln)) (by omega) (j + 1 + ln) o3 (by omega) (by omega) B3
        rw [show j + u - 2 - ln + (1 + ln) + 2 = j + u + 1 by omega, show ((1 + ln : Nat) : Int) = 1 + (ln : Int) by omega] at e3
        rw [show j + 1 + ln + (u - 1 - (1 + ln)) + 2 = j + u + 1 by omega, show ((u - 1 - (1 + ln) : Nat) : Int) = (u : Int) - 1 - (1 + (ln : Int)) by omega] at e4
        refine ⟨.tup [.str w, d3, d4], o4, ?_, ?_, B4⟩
        · simp [e3, e4, h3]
        · have := th3 (th_word (w := w) (k := u - 1) hws) (t3.mono (Nat.le_refl _) (by omega)) (t4.mono (Nat.le_refl _) (by omega))
          exact this.mono (by omega) (by omega)
theorem way_call {xs : List Str} (N : Nms xs) {r : Hh} : ∀ (u j : Nat) (o : O), u ≤ 3 → Bg o → ∃ d o', callN tab (j + u + 7) "_law_way" [.ref 0, .lst (xs.map .str), .int u] (o :: r) = .ok d (o' :: r) ∧ Th (1000 * 3 ^ u) (u + 5) d ∧ Bg o' := by
  intro u
  induction u with
  | zero =>
    intro j o hu B
    obtain ⟨v, o1, e1, B1, v0, v1⟩ := take_call tk (k := j + 5) (r := r) B (m := 6) (by decide) (by decide)
    obtain ⟨d, o2, e2, t2, B2⟩ := any_kind_call N (r := r) 4 j o1 (by decide) (by decide) B1
    rw [call_at t__law_way rfl]
    simp only [fd__law_way, b__law_way]
    rw [seq_nx (ρ1 := [some (.ref 0), some (.lst (xs.map .str)), some (.int 0), some (.int v)]) (h1 := o1 :: r) (by simp [startR, e1])]
    have h2 : sz 2 = true := by decide
    have e2' : callN tab (j + 6) "_law_any_kind" [.ref 0, .lst (xs.map .str), .int 4] (o1 :: r) = .ok d (o2 :: r) := e2
    refine ⟨.tup [.str "same", d], o2, ?_, ?_, B2⟩
    · rw [seq_rt (d := .tup [.str "same", d]) (h1 := o2 :: r)]
      · rfl
      · simp [e2', h2]
    · have := th2 (th_word (w := "same") (k := 4) (by decide +kernel)) t2
      exact this.mono (by omega) (by omega)
  | succ u ih =>
    intro j o hu B
    obtain ⟨v, o1, e1, B1, v0, v1⟩ := take_call tk (k := j + u + 6) (r := r) B (m := 6) (by decide) (by decide)
    rw [show j + (u + 1) + 7 = j + u + 7 + 1 by omega, call_at t__law_way rfl]
    simp only [fd__law_way, b__law_way]
    rw [seq_nx (ρ1 := [some (.ref 0), some (.lst (xs.map .str)), some (.int ((u + 1 : Nat) : Int)), some (.int v)]) (h1 := o1 :: r) (by simp [startR, e1])]
    have h2 : sz 2 = true := by decide
    have h3 : sz 3 = true := by decide
    have u0 : ¬ ((u : Int) + 1 = 0) := by omega
    have p3 : 3 ^ (u + 1) = 3 * 3 ^ u := by rw [Nat.pow_succ, Nat.mul_comm]
    have p1 : 1 ≤ 3 ^ u := Nat.pow_pos (by decide)
    by_cases c0 : v = 0
    · obtain ⟨d, o2, e2, t2, B2⟩ := any_kind_call N (r := r) 4 (j + u + 1) o1 (by decide) (by decide) B1
      have e2' : callN tab (j + u + 7) "_law_any_kind" [.ref 0, .lst (xs.map .str), .int 4] (o1 :: r) = .ok d (o2 :: r) := e2
      refine ⟨.tup [.str "same", d], o2, ?_, ?_, B2⟩
      · rw [seq_rt (d := .tup [.str "same", d]) (h1 := o2 :: r)]
        · rfl
        · simp [e2', h2, u0, c0]
      · have := th2 (th_word (w := "same") (k := 4) (by decide +kernel)) t2
        exact this.mono (by omega) (by omega)
    · rw [seq_nx (ρ1 := [some (.ref 0), some (.lst (xs.map .str)), some (.int ((u + 1 : Nat) : Int)), some (.int v)]) (h1 := o1 :: r) (by simp [u0, c0])]
      obtain ⟨d, o2, e2, t2, B2⟩ := ih j o1 (by omega) B1
      have e2' : callN tab (j + u + 7) "_law_way" [.ref 0, .lst (xs.map .str), .int ((u : Int) + 1 - 1)] (o1 :: r) = .ok d (o2 :: r) := by
        rw [show (u : Int) + 1 - 1 = (u : Int) by omega]
        exact e2
      by_cases c1 : v < 3
      · obtain ⟨x, o3, e3, s3, B3⟩ := one_nm N (j := j + u + 5) (r := r) B2
        have e3' : callN tab (j + u + 7) "_law_one" [.ref 0, .lst (xs.map .str)] (o2 :: r) = .ok (.str x) (o3 :: r) := e3
        refine ⟨.tup [.str "then", d, .str x], o3, ?_, ?_, B3⟩
        · rw [seq_rt (d := .tup [.str "then", d, .str x]) (h1 := o3 :: r)]
          · rfl
          · simp only [Int.add_sub_cancel] at e2'
            simp [e2', e3', h3, c1]
        · have := th3 (th_word (w := "then") (k := u + 5) (by decide +kernel)) t2 (th_str s3 (by decide))
          exact this.mono (by omega) (by omega)
      · rw [seq_nx (ρ1 := [some (.ref 0), some (.lst (xs.map .str)), some (.int ((u + 1 : Nat) : Int)), some (.int v)]) (h1 := o1 :: r) (by simp [c1])]
        by_cases c3 : v = 3
        · refine ⟨.tup [.str "list", d], o2, ?_, ?_, B2⟩
          · rw [seq_rt (d := .tup [.str "list", d]) (h1 := o2 :: r)]
            · rfl
            · simp only [Int.add_sub_cancel] at e2'
              simp [e2', h2, c3]
          · have := th2 (th_word (w := "list") (k := u + 5) (by decide +kernel)) t2
            exact this.mono (by omega) (by omega)
        · rw [seq_nx (ρ1 := [some (.ref 0), some (.lst (xs.map .str)), some (.int ((u + 1 : Nat) : Int)), some (.int v)]) (h1 := o1 :: r) (by simp [c3])]
          obtain ⟨d3, o3, e3, t3, B3⟩ := ih j o2 (by omega) B2
          obtain ⟨w, hw, hws⟩ : ∃ w : Str, idxD (.lst [.str "pair", .str "fun"]) (.int (v - 4)) (o1 :: r) = .ok (.str w) (o1 :: r) ∧ ssB 4 w = true := by
            by_cases c : v = 4
            · subst c
              exact ⟨"pair", rfl, by decide +kernel⟩
            · obtain rfl : v = 5 := by omega
              exact ⟨"fun", rfl, by decide +kernel⟩
          refine ⟨.tup [.str w, d, d3], o3, ?_, ?_, B3⟩
          · simp only [Int.add_sub_cancel] at e2'
            simp [e2', e3, h2, h3, hw]
          · have := th3 (th_word (w := w) (k := u + 5) hws) t2 t3
            exact this.mono (by omega) (by omega)
end K11
namespace K11
open PySem PySem.Spec PyProof.Rows L2 Ax
theorem loop_pair {h : Hh} {b : D} : ∀ (l : List D) (d : D) (c : Option D) (n k : Nat), Th n k d →
    ∃ d' c', loopS (gN 2) (zSet 1 (xTup (xCons (xC (.str "pair")) (xCons (xV 1) (xCons (xV 1) (xNil)))))) l [some b, some d, c] h = .nx [some b, some d', c'] h ∧ Th ((n + 51) * 2 ^ l.length) (k + l.length) d'
  | [], d, c, n, k, t => ⟨d, c, rfl, t.mono (by simp) (Nat.le_refl _)⟩
  | x :: l, d, c, n, k, t => by
    have h3 : sz 3 = true := by decide
    have t2 : Th (2 * n + 51) (k + 1) (.tup [.str "pair", d, d]) := (th3 (th_word (w := "pair") (by decide +kernel)) t t).mono (by omega) (Nat.le_refl _)
    obtain ⟨d', c', e, t'⟩ := loop_pair (h := h) (b := b) l (.tup [.str "pair", d, d]) (some x) _ _ t2
    refine ⟨d', c', ?_, t'.mono ?_ ?_⟩
    · simp only [loopS, gN_at]
      simp [h3]
      exact e
    · rw [List.length_cons, Nat.pow_succ]
      have : (2 * n + 51 + 51) * 2 ^ l.length = (n + 51) * (2 ^ l.length * 2) := by
        rw [show 2 * n + 51 + 51 = (n + 51) * 2 by omega, Nat.mul_assoc, Nat.mul_comm 2]
      omega
    · simp only [List.length_cons]
      omega
theorem loop_list {h : Hh} {b : D} : ∀ (l : List D) (d : D) (c : Option D) (n k : Nat), Th n k d →
    ∃ d' c', loopS (gN 2) (zSet 1 (xTup (xCons (xC (.str "list")) (xCons (xV 1) (xNil))))) l [some b, some d, c] h = .nx [some b, some d', c'] h ∧ Th (n + 49 * l.length) (k + l.length) d'
  | [], d, c, n, k, t => ⟨d, c, rfl, t⟩
  | x :: l, d, c, n, k, t => by
    have h3 : sz 2 = true := by decide
    have t2 : Th (n + 49) (k + 1) (.tup [.str "list", d]) := (th2 (th_word (w := "list") (by decide +kernel)) t).mono (by omega) (Nat.le_refl _)
    obtain ⟨d', c', e, t'⟩ := loop_list (h := h) (b := b) l (.tup [.str "list", d]) (some x) _ _ t2
    refine ⟨d', c', ?_, t'.mono ?_ ?_⟩
    · simp only [loopS, gN_at]
      simp [h3]
      exact e
    · simp only [List.length_cons]
      omega
    · simp only [List.length_cons]
      omega
theorem rng_nat {h : Hh} {v : Int} (h0 : 0 ≤ v) (h1 : v < 1000) : ∃ l : List D, rng1D [.int v] h = .ok l h ∧ l.length = v.toNat := by
  refine ⟨_, rng_at (by omega) (by omega), ?_⟩
  rw [List.length_map, List.length_range]
theorem great_call {j : Nat} {o : O} {r : Hh} {d : D} (t : Th 640 4 d) (B : Bg o) : ∃ d' o', callN tab (j + 2) "_law_great" [.ref 0, d] (o :: r) = .ok d' (o' :: r) ∧ Th 25000 40 d' ∧ Bg o' := by
  obtain ⟨v, o1, e1, B1, v0, v1⟩ := take_call tk (k := j) (r := r) B (m := 6) (by decide) (by decide)
  obtain ⟨l1, r1, s1⟩ := rng_nat (h := o1 :: r) v0 (by omega)
  obtain ⟨d1, c1, f1, t1⟩ := loop_pair (h := o1 :: r) (b := .ref 0) l1 d none _ _ t
  obtain ⟨v2, o2, e2, B2, u0, u1⟩ := take_call tk (k := j) (r := r) B1 (m := 31) (by decide) (by decide)
  obtain ⟨l2, r2, s2⟩ := rng_nat (h := o2 :: r) u0 (by omega)
  have p5 : 2 ^ l1.length ≤ 32 := by
    have : l1.length ≤ 5 := by omega
    exact Nat.le_trans (Nat.pow_le_pow_right (by decide) this) (by decide)
  have t1' : Th 22112 9 d1 := t1.mono (by
    have := Nat.mul_le_mul_left (640 + 51) p5
    omega) (by omega)
  obtain ⟨d2, c2, f2, t2⟩ := loop_list (h := o2 :: r) (b := .ref 0) l2 d1 c1 _ _ t1'
  have t2' : Th 24000 39 d2 := t2.mono (by omega) (by omega)
  obtain ⟨v3, o3, e3, B3, w0, w1⟩ := take_call tk (k := j) (r := r) B2 (m := 2) (by decide) (by decide)
  have h2 : sz 2 = true := by decide
  rw [call_at t__law_great rfl]
  simp only [fd__law_great, b__law_great]
  have a1 : zSeq (zFor (iR1 (xCons (xCall 2 (callN tab (j + 1) "_law_take") (xCons (xV 0) (xCons (xC (.int 6)) (xNil)))) (xNil))) (gN 2) (zSet 1 (xTup (xCons (xC (.str "pair")) (xCons (xV 1) (xCons (xV 1) (xNil)))))))
      (zSeq (zFor (iR1 (xCons (xCall 2 (callN tab (j + 1) "_law_take") (xCons (xV 0) (xCons (xC (.int 31)) (xNil)))) (xNil))) (gN 2) (zSet 1 (xTup (xCons (xC (.str "list")) (xCons (xV 1) (xNil))))))
      (zRet (xIfe (yV (xBin eqD (xCall 2 (callN tab (j + 1) "_law_take") (xCons (xV 0) (xCons (xC (.int 2)) (xNil)))) (xC (.int 0)))) (xTup (xCons (xC (.str "same")) (xCons (xV 1) (xNil)))) (xV 1)))) (startR 3 [.ref 0, d]) (o :: r) =
      .rt (if v3 = 0 then .tup [.str "same", d2] else d2) (o3 :: r) := by
    rw [seq_nx (ρ1 := [some (.ref 0), some d1, c1]) (h1 := o1 :: r) (by simp [startR, e1, r1]; exact f1), seq_nx (ρ1 := [some (.ref 0), some d2, c2]) (h1 := o2 :: r) (by simp [e2, r2]; exact f2)]
    by_cases c : v3 = 0
    · simp [e3, c, h2]
    · simp [e3, c]
  rw [a1]
  refine ⟨_, o3, rfl, ?_, B3⟩
  by_cases c : v3 = 0
  · rw [if_pos c]
    exact (th2 (th_word (w := "same") (by decide +kernel)) t2').mono (by omega) (Nat.le_refl _)
  · rw [if_neg c]
    exact t2'.mono (by omega) (by omega)
structure Mx (n m k : Nat) (d : D) : Prop where
  t : trk k d = true
  ex : ∃ p, cv d = some p ∧ Sh n m p ∧ (p.hasDict = false ∨ noL p = true)
theorem Mx.mono {n m k n' m' k' : Nat} {d : D} (x : Mx n m k d) (h1 : n ≤ n') (h2 : m ≤ m') (h3 : k ≤ k') : Mx n' m' k' d := by
  obtain ⟨p, e, s, c⟩ := x.ex
  exact ⟨trk_mono h3 x.t, p, e, s.mono h1 h2, c⟩
theorem Th.mx {n k : Nat} {d : D} (t : Th n k d) : Mx n k k d := by
  obtain ⟨p, e, s, c⟩ := t.ex
  exact ⟨t3_trk t.t, p, e, s, .inl c.nd⟩
def nest : Nat → D → D
  | 0, d => d
  | n + 1, d => nest n (.lst [d])
def big0 : D := .lst (List.replicate 4900 [D.int 0]).flatten
def odds1 : List D := [.non, .bl true, .bl false, .int 0, .int (-1), .int (10 ^ 39), .str "", .str "a", .str "A", .str "ninesigns", .str "a b", .str "a1", .tup [], .lst [], .dct [], .tup [.str "a"]]
def odds2 : List D := [.lst [.str "list", .str "a"], .tup [.str "list"], .tup [.str "list", .str "a", .str "a"], .tup [.str "pair", .str "a"], .tup [.str "fun", .str "a"], .tup [.str "same"]]
def odds3 : List D := [.tup [.str "then", .str "a", .str "b"], nest 20 (.lst [])]
def odds4 : List D := [.tup [.str "list", .lst [.str "a"]], .tup [.str "List", .str "a"], .tup [.str "same", .str "a", .str "b"], .tup [.str "list", .tup [.str "same", .str "a"]]]
def oddB (d : D) : Bool := trk 3 d && (match cv d with | some p => p.showable && decide (p.shown.length ≤ 16000) && decide (p.depth ≤ 25) && (!p.hasDict || noL p) | none => false)
theorem odd_of {d : D} (h : oddB d = true) : Mx 16000 25 3 d := by
  unfold oddB at h
  simp only [Bool.and_eq_true] at h
  obtain ⟨h1, h2⟩ := h
  split at h2
  · rename_i p e
    simp only [Bool.and_eq_true, decide_eq_true_eq, Bool.or_eq_true, Bool.not_eq_true'] at h2
    exact ⟨h1, p, e, ⟨h2.1.1.1, h2.1.1.2, h2.1.2⟩, h2.2⟩
  · cases h2
theorem odds_ok : ((odds1 ++ odds2 ++ odds3 ++ odds4).all oddB) = true := by decide +kernel
end K11
namespace K11
open PySem PySem.Spec PyProof.Rows L2 Ax
theorem textFrom_le : ∀ (ts : List Str) (k : Nat) (acc : Str), (textFrom k acc ts).length ≤ acc.length + piled ts
  | [], k, acc => by simp [textFrom, piled]
  | t :: ts, k, acc => by
    have ih := textFrom_le ts (k + 1) (acc ++ (if k > 0 then ", " else "" : String) ++ t)
    have e : (acc ++ (if k > 0 then ", " else "" : String) ++ t).length ≤ acc.length + 2 + t.length := by
      rw [strLen_append, strLen_append]
      have : ((if k > 0 then ", " else "" : String) : Str).length ≤ 2 := by split <;> decide
      omega
    simp only [textFrom, piled_cons]
    omega
theorem listText_le (ts : List Str) : (listText ts).length ≤ piled ts + 2 := by
  unfold listText
  rw [strLen_append]
  have := textFrom_le ts 0 "["
  have e1 : (("[" : String) : Str).length = 1 := rfl
  have e2 : (("]" : String) : Str).length = 1 := rfl
  omega
theorem sh_list {ps : List PyData} {n m : Nat} (h : ∀ p ∈ ps, Sh n m p) : Sh (ps.length * (n + 2) + 2) (m + 1) (.list ps) := by
  obtain ⟨h1, h2, h3⟩ := sh_all h
  refine ⟨h1, ?_, ?_⟩
  · simp only [PyData.shown]
    have := listText_le (PyData.shownAll ps)
    omega
  · simp only [PyData.depth]
    omega
theorem mx_list {ds : List D} {n m k : Nat} (h : ∀ d ∈ ds, ∃ p, cv d = some p ∧ Sh n m p ∧ p.hasDict = false) : Mx (ds.length * (n + 2) + 2) (m + 1) k (.lst ds) := by
  obtain ⟨ps, e, l, hp⟩ := cvs_all (P := fun p => Sh n m p ∧ p.hasDict = false) h
  refine ⟨by cases k <;> rfl, .list ps, ?_, ?_, .inl ?_⟩
  · simp only [cvs] at e
    simp only [cv, toP, e, Option.map_some]
  · rw [← l]
    exact sh_list fun p hq => (hp p hq).1
  · simp only [PyData.hasDict]
    clear e l
    induction ps with
    | nil => rfl
    | cons p ps ih =>
      simp only [PyData.hasDictAll, (hp p (List.mem_cons_self ..)).2, Bool.false_or]
      exact ih fun q hq => hp q (List.mem_cons_of_mem _ hq)
theorem big_ok : Mx 16000 25 3 big0 := by
  have hl : (List.replicate 4900 [D.int 0]).flatten.length = 4900 := by simp
  have := mx_list (ds := (List.replicate 4900 [D.int 0]).flatten) (n := 1) (m := 0) (k := 3) fun d hd => by
    obtain ⟨l, hl, hd⟩ := List.mem_flatten.mp hd
    have e := List.eq_of_mem_replicate hl
    subst e
    obtain rfl : d = .int 0 := by simpa using hd
    exact ⟨.int 0, rfl, ⟨by decide, by decide +kernel, by decide⟩, rfl⟩
  rw [hl] at this
  exact this.mono (by decide) (by decide) (by decide)
def odds : List D := odds1 ++ odds2 ++ odds3 ++ (odds4 ++ [big0])
theorem odds_all : ∀ d ∈ odds, Mx 16000 25 3 d := fun d hd => by
  have ho := List.all_eq_true.mp odds_ok
  simp only [odds, List.mem_append, List.mem_singleton] at hd
  simp only [List.mem_append] at ho
  rcases hd with ((h | h) | h) | h | h
  · exact odd_of (ho d (.inl (.inl (.inl h))))
  · exact odd_of (ho d (.inl (.inl (.inr h))))
  · exact odd_of (ho d (.inl (.inr h)))
  · exact odd_of (ho d (.inr h))
  · rw [h]; exact big_ok
theorem loop_nest {h : Hh} {b : D} {e : Option D} : ∀ (l : List D) (d : D) (c : Option D), ∃ c', loopS (gN 2) (zSet 1 (xLst (xCons (xV 1) (xNil)))) l [some b, some d, c, e] h = .nx [some b, some (nest l.length d), c', e] h
  | [], d, c => ⟨c, rfl⟩
  | x :: l, d, c => by
    obtain ⟨c', q⟩ := loop_nest (h := h) (b := b) (e := e) l (.lst [d]) (some x)
    have h1 : sz 1 = true := by decide
    refine ⟨c', ?_⟩
    simp only [loopS, gN_at]
    simp [h1]
    exact q
theorem mul_big {h : Hh} : mulD (.lst [.int 0]) (.int 4900) h = .ok big0 h := rfl
theorem add_lst {h : Hh} {xs ys : List D} (hl : xs.length + ys.length ≤ 1000) : addD (.lst xs) (.lst ys) h = .ok (.lst (xs ++ ys)) h := by
  simp only [addD, asL, sz_of hl, if_true]
theorem odd_call {j : Nat} {o : O} {r : Hh} (B : Bg o) : ∃ d o', callN tab (j + 2) "_law_odd" [.ref 0] (o :: r) = .ok d (o' :: r) ∧ Mx 16000 25 3 d ∧ Bg o' := by
  obtain ⟨v, o1, e1, B1, v0, v1⟩ := take_call tk (k := j) (r := r) B (m := 29) (by decide) (by decide)
  have hlen : odds.length = 29 := by decide
  obtain ⟨x, hx, ex⟩ := idx_lst (h := o1 :: r) (xs := odds) (i := v) v0 (by rw [hlen]; exact v1)
  obtain ⟨l, rl, sl⟩ := rng_nat (h := o :: r) (v := 20) (by decide) (by decide)
  obtain ⟨c, ec⟩ := loop_nest (h := o :: r) (b := .ref 0) (e := none) l (.lst []) none
  rw [sl, show (20 : Int).toNat = 20 from rfl] at ec
  refine ⟨x, o1, ?_, odds_all x hx, B1⟩
  rw [call_at t__law_odd rfl]
  simp only [fd__law_odd, b__law_odd]
  have s0 : sz 0 = true := by decide
  have s1 : sz 1 = true := by decide
  have s2 : sz 2 = true := by decide
  have s3 : sz 3 = true := by decide
  have s5 : sz 5 = true := by decide
  have s6 : sz 6 = true := by decide
  have s16 : sz 16 = true := by decide
  have pw : ∀ h : Hh, powD (.int 10) (.int 39) h = .ok (.int (10 ^ 39)) h := fun h => rfl
  rw [seq_nx (ρ1 := [some (.ref 0), some (.lst []), none, none]) (h1 := o :: r) (by simp [startR, s0]),
    seq_nx (ρ1 := [some (.ref 0), some (nest 20 (.lst [])), c, none]) (h1 := o :: r) (by
      simp only [zFor_at, iR1_at, xCons_at, xC_at, bind_ok, xNil_at, rl, of_ok]
      exact ec),
    seq_nx (ρ1 := [some (.ref 0), some (nest 20 (.lst [])), c, some (.lst odds1)]) (h1 := o :: r) (by
      simp [s0, s1, s16, negD, odds1]
      rw [pw]
      simp [s16]),
    seq_nx (ρ1 := [some (.ref 0), some (nest 20 (.lst [])), c, some (.lst (odds1 ++ odds2))]) (h1 := o :: r) (by
      simp [s1, s2, s3, s6]
      rw [show [D.lst [.str "list", .str "a"], .tup [.str "list"], .tup [.str "list", .str "a", .str "a"], .tup [.str "pair", .str "a"], .tup [.str "fun", .str "a"], .tup [.str "same"]] = odds2 from rfl, add_lst (by decide)]
      simp),
    seq_nx (ρ1 := [some (.ref 0), some (nest 20 (.lst [])), c, some (.lst (odds1 ++ odds2 ++ odds3))]) (h1 := o :: r) (by
      simp [s2, s3]
      rw [show [D.tup [.str "then", .str "a", .str "b"], nest 20 (.lst [])] = odds3 from rfl, add_lst (by decide)]
      simp),
    seq_nx (ρ1 := [some (.ref 0), some (nest 20 (.lst [])), c, some (.lst odds)]) (h1 := o :: r) (by
      simp [s1, s2, s3, s5, mul_big]
      rw [show [D.tup [.str "list", .lst [.str "a"]], .tup [.str "List", .str "a"], .tup [.str "same", .str "a", .str "b"], .tup [.str "list", .tup [.str "same", .str "a"]], big0] = odds4 ++ [big0] from rfl, add_lst (by decide)]
      simp [odds])]
  simp [e1, ex]
end K11
namespace K11
open PySem PySem.Spec PyProof.Rows L2 Ax
mutual
theorem plain_nd : ∀ p : PyData, p.hasDict = false → p.plain = true
  | .none, _ => rfl
  | .bool _, _ => rfl
  | .int _, _ => rfl
  | .str _, _ => rfl
  | .list xs, h => by
    simp only [PyData.hasDict] at h
    simp only [PyData.plain]
    exact plains_nd xs h
  | .tuple xs, h => by
    simp only [PyData.hasDict] at h
    simp only [PyData.plain]
    exact plains_nd xs h
  | .dict _, h => by simp [PyData.hasDict] at h
theorem plains_nd : ∀ ps : List PyData, PyData.hasDictAll ps = false → PyData.plainAll ps = true
  | [], _ => rfl
  | p :: ps, h => by
    simp only [PyData.hasDictAll, Bool.or_eq_false_iff] at h
    simp only [PyData.plainAll, plain_nd p h.1, plains_nd ps h.2, Bool.and_self]
end
/-- the parts of a clean tuple -/
theorem cvs_get {ds : List D} {ps : List PyData} (e : cvs ds = some ps) : ∀ d ∈ ds, ∃ p ∈ ps, cv d = some p := by
  induction ds generalizing ps with
  | nil => intro d hd; cases hd
  | cons a l ih =>
    simp only [cvs, toPs] at e
    split at e
    · rename_i p ps2 e3 e4
      cases e
      intro d hd
      rcases List.mem_cons.mp hd with rfl | hd
      · exact ⟨p, List.mem_cons_self .., e3⟩
      · obtain ⟨q, hq, eq⟩ := ih e4 d hd
        exact ⟨q, List.mem_cons_of_mem _ hq, eq⟩
    · cases e
theorem all_get {ps : List PyData} (h1 : PyData.showableAll ps = true) (h3 : PyData.hasDictAll ps = false) (h4 : noLs ps = true) : ∀ p ∈ ps, p.showable = true ∧ p.depth ≤ PyData.depthAll ps ∧ p.shown ∈ PyData.shownAll ps ∧ p.hasDict = false ∧ noL p = true := by
  induction ps with
  | nil => intro p hp; cases hp
  | cons a l ih =>
    simp only [PyData.showableAll, Bool.and_eq_true] at h1
    simp only [PyData.hasDictAll, Bool.or_eq_false_iff] at h3
    simp only [noLs, Bool.and_eq_true] at h4
    intro p hp
    simp only [PyData.depthAll, PyData.shownAll]
    rcases List.mem_cons.mp hp with rfl | hp
    · exact ⟨h1.1, Nat.le_max_left _ _, List.mem_cons_self .., h3.1, h4.1⟩
    · obtain ⟨q1, q2, q3, q4, q5⟩ := ih h1.2 h3.2 h4.2 p hp
      exact ⟨q1, Nat.le_trans q2 (Nat.le_max_right _ _), List.mem_cons_of_mem _ q3, q4, q5⟩
theorem th_parts {ds : List D} {n k : Nat} (t : Th n (k + 1) (.tup ds)) : ds.length ≤ 3 ∧ ∀ d ∈ ds, Th n k d := by
  obtain ⟨k', e, hl, ht⟩ := t3_tup t.t
  obtain rfl : k = k' := by omega
  refine ⟨hl, fun d hd => ?_⟩
  obtain ⟨p, e, s, c⟩ := t.ex
  simp only [cv, toP, Option.map_eq_some_iff] at e
  obtain ⟨ps, e1, rfl⟩ := e
  obtain ⟨q, hq, eq⟩ := cvs_get e1 d hd
  have h1 := s.sh
  have h2 := s.dp
  have h5 := s.le
  simp only [PyData.showable] at h1
  simp only [PyData.depth] at h2
  simp only [PyData.shown] at h5
  have h3 := c.nd
  have h4 := c.nl
  simp only [PyData.hasDict] at h3
  simp only [noL] at h4
  obtain ⟨q1, q2, q3, q4, q5⟩ := all_get h1 h3 h4 q hq
  exact ⟨ht d hd, q, eq, ⟨q1, Nat.le_trans (tupleText_mem_le q3) h5, by omega⟩, q4, q5⟩
theorem eq_unit {ds : List D} {n k : Nat} {h : Hh} (t : Th n k (.tup ds)) (hk : k ≤ 150) : eqD (.tup ds) (.tup []) h = .ok (.bl ds.isEmpty) h := by
  obtain ⟨p, e, s, c⟩ := t.ex
  have e2 : toD h (.tup ds) = some p := toP_any e
  simp only [cv, toP, Option.map_eq_some_iff] at e
  obtain ⟨ps, e1, rfl⟩ := e
  have hd : dOk (.tuple ps) = true := by
    simp only [dOk, plain_nd _ c.nd, Bool.true_and, decide_eq_true_eq]
    exact Nat.le_trans s.dp hk
  have e3 : toD h (.tup []) = some (.tuple []) := rfl
  have h0 : dOk (.tuple []) = true := rfl
  simp only [eqD, difL, asL, e2, e3, hd, h0, Bool.and_self, if_true, Bool.false_eq_true, if_false]
  congr 2
  simp only [PyData.eqv]
  cases ds with
  | nil =>
    cases e1
    rfl
  | cons a l =>
    simp only [toPs] at e1
    split at e1
    · cases e1
      rfl
    · cases e1
/-- a tuple of clean parts and one other -/
theorem mx_tup {l r : List D} {x : D} {n n2 m k : Nat} (hl : ∀ d ∈ l, Th n k d) (hr : ∀ d ∈ r, Th n k d) (hx : Mx n2 m (k + 3) x) (hm : k ≤ m) (hlen : l.length + r.length ≤ 3) : Mx (4 * (n + 2) + n2 + 5) (m + 1) (k + 4) (.tup (l ++ [x] ++ r)) := by
  have cl : ∀ {l : List D}, (∀ d ∈ l, Th n k d) → ∃ ps, cvs l = some ps ∧ ps.length = l.length ∧ ∀ p ∈ ps, Sh n m p ∧ Cl p := fun h => cvs_all fun d hd => by
    obtain ⟨p, e, s, c⟩ := (h d hd).ex
    exact ⟨p, e, s.mono (Nat.le_refl _) hm, c⟩
  obtain ⟨ps, e1, l1, h1⟩ := cl hl
  obtain ⟨qs, e2, l2, h2⟩ := cl hr
  obtain ⟨p, e, s, c⟩ := hx.ex
  have ex : cvs [x] = some [p] := by
    simp only [cv] at e
    simp only [cvs, toPs, e]
  have ea := cvs_app (cvs_app e1 ex) e2
  refine ⟨?_, .tuple (ps ++ [p] ++ qs), ?_, ?_, ?_⟩
  · simp only [trk, Bool.and_eq_true, decide_eq_true_eq, List.all_eq_true]
    refine ⟨by simp; omega, fun d hd => ?_⟩
    simp only [List.mem_append, List.mem_singleton] at hd
    rcases hd with (h | h) | h
    · exact trk_mono (by omega) (t3_trk (hl d h).t)
    · rw [h]; exact hx.t
    · exact trk_mono (by omega) (t3_trk (hr d h).t)
  · simp only [cvs] at ea
    simp only [cv, toP, ea, Option.map_some]
  · obtain ⟨a1, a2, a3⟩ := sh_all fun p hp => (h1 p hp).1
    obtain ⟨b1, b2, b3⟩ := sh_all fun p hp => (h2 p hp).1
    have app_s : ∀ (as bs : List PyData), PyData.shownAll (as ++ bs) = PyData.shownAll as ++ PyData.shownAll bs := fun as bs => by
      induction as with
      | nil => rfl
      | cons a l ih => simp only [List.cons_append, PyData.shownAll, ih]
    have app_o : ∀ (as bs : List PyData), PyData.showableAll (as ++ bs) = (PyData.showableAll as && PyData.showableAll bs) := fun as bs => by
      induction as with
      | nil => rfl
      | cons a l ih => simp only [List.cons_append, PyData.showableAll, ih, Bool.and_assoc]
    have app_d : ∀ (as bs : List PyData), PyData.depthAll (as ++ bs) = max (PyData.depthAll as) (PyData.depthAll bs) := fun as bs => by
      induction as with
      | nil => simp [PyData.depthAll]
      | cons a l ih => simp only [List.cons_append, PyData.depthAll, ih, Nat.max_assoc]
    refine ⟨?_, ?_, ?_⟩
    · simp only [PyData.showable, app_o, a1, b1, PyData.showableAll, s.sh, Bool.and_self]
    · simp only [PyData.shown, app_s, PyData.shownAll]
      have := tupleText_le (PyData.shownAll ps ++ PyData.shownAll [p] ++ PyData.shownAll qs)
      rw [piled_append, piled_append] at this
      simp only [PyData.shownAll, piled_cons, piled_nil] at this
      have := s.le
      have hln : ps.length * (n + 2) + qs.length * (n + 2) ≤ 3 * (n + 2) := by
        rw [← Nat.add_mul]
        exact Nat.mul_le_mul_right _ (by omega)
      omega
    · simp only [PyData.depth, app_d, PyData.depthAll]
      have := s.dp
      omega
  · obtain ⟨a1, a2⟩ := cl_all fun p hp => (h1 p hp).2
    obtain ⟨b1, b2⟩ := cl_all fun p hp => (h2 p hp).2
    have app_h : ∀ (as bs : List PyData), PyData.hasDictAll (as ++ bs) = (PyData.hasDictAll as || PyData.hasDictAll bs) := fun as bs => by
      induction as with
      | nil => rfl
      | cons a l ih => simp only [List.cons_append, PyData.hasDictAll, ih, Bool.or_assoc]
    have app_l : ∀ (as bs : List PyData), noLs (as ++ bs) = (noLs as && noLs bs) := fun as bs => by
      induction as with
      | nil => rfl
      | cons a l ih => simp only [List.cons_append, noLs, ih, Bool.and_assoc]
    rcases c with c | c
    · refine .inl ?_
      simp only [PyData.hasDict, app_h, a1, b1, PyData.hasDictAll, c, Bool.or_self]
    · refine .inr ?_
      simp only [noL, app_l, a2, b2, noLs, c, Bool.and_self]
theorem add_tup {h : Hh} {xs ys : List D} (hl : xs.length + ys.length ≤ 1000) : addD (.tup xs) (.tup ys) h = .ok (.tup (xs ++ ys)) h := by
  simp only [addD, sz_of hl, if_true]
@[simp] theorem zPar_at {i j : Nat} {fs : Fl} {ρ : Rho} {h h1 : Hh} {a b : D} (e : fs ρ h = .ok [a, b] h1) : zPar i j fs ρ h = .nx ((ρ.set i (some a)).set j (some b)) h1 := by
  simp only [zPar, e, of_ok]
theorem bent_call {n : Nat} {r : Hh} : ∀ (k j : Nat) (d : D) (o : O), k ≤ 100 → Th n k d → Bg o → ∃ d' o', callN tab (j + k + 3) "_law_bent" [.ref 0, d] (o :: r) = .ok d' (o' :: r) ∧ Mx (16000 + k * (5 * n + 20)) (k + 26) (k + 3) d' ∧ Bg o' := by
  have oddc : ∀ (q k : Nat) (o : O), Bg o → ∃ d' o', callN tab (q + 2) "_law_odd" [.ref 0] (o :: r) = .ok d' (o' :: r) ∧ Mx (16000 + k * (5 * n + 20)) (k + 26) (k + 3) d' ∧ Bg o' := fun q k o B => by
    obtain ⟨d, o', e, x, B'⟩ := odd_call (j := q) (r := r) B
    exact ⟨d, o', e, x.mono (by omega) (by omega) (by omega), B'⟩
  intro k
  induction k with
  | zero =>
    intro j d o hk t B
    obtain ⟨d', o', e, x, B'⟩ := oddc j 0 o B
    refine ⟨d', o', ?_, x, B'⟩
    rw [call_at t__law_bent rfl]
    simp only [fd__law_bent, b__law_bent]
    cases d with
    | str y =>
      rw [seq_rt (d := d') (h1 := o' :: r)]
      · rfl
      · simp [startR, e]
    | _ => exact absurd t.t (by simp [t3])
  | succ k ih =>
    intro j d o hk t B
    rw [show j + (k + 1) + 3 = (j + k + 3) + 1 by omega, call_at t__law_bent rfl]
    simp only [fd__law_bent, b__law_bent]
    have odr : ∀ o : O, Bg o → ∃ d' o', callN tab (j + k + 3) "_law_odd" [.ref 0] (o :: r) = .ok d' (o' :: r) ∧ Mx (16000 + (k + 1) * (5 * n + 20)) (k + 1 + 26) (k + 1 + 3) d' ∧ Bg o' := fun o B => oddc (j + k + 1) (k + 1) o B
    cases d with
    | str y =>
      obtain ⟨d', o', e, x, B'⟩ := odr o B
      refine ⟨d', o', ?_, x, B'⟩
      rw [seq_rt (d := d') (h1 := o' :: r)]
      · rfl
      · simp [startR, e]
    | tup ds =>
      obtain ⟨hl, hp⟩ := th_parts t
      have eu : ∀ h : Hh, eqD (.tup ds) (.tup []) h = .ok (.bl ds.isEmpty) h := fun h => eq_unit t (by omega)
      have h0 : sz 0 = true := by decide
      have h1 : sz 1 = true := by decide
      cases hds : ds.isEmpty with
      | true =>
        obtain ⟨d', o', e, x, B'⟩ := odr o B
        refine ⟨d', o', ?_, x, B'⟩
        rw [seq_rt (d := d') (h1 := o' :: r)]
        · rfl
        · simp [startR, h0, eu, hds, e]
      | false =>
        have hpos : 0 < ds.length := by
          cases ds with
          | nil => cases hds
          | cons a l => simp
        obtain ⟨v, o1, e1, B1, v0, v1⟩ := take_call tk (k := j + k + 2) (r := r) B (m := 3) (by decide) (by decide)
        by_cases c0 : v = 0
        · obtain ⟨d', o', e, x, B'⟩ := odr o1 B1
          refine ⟨d', o', ?_, x, B'⟩
          rw [seq_rt (d := d') (h1 := o' :: r)]
          · rfl
          · simp [startR, h0, eu, hds, e1, c0, e]
        · rw [seq_nx (ρ1 := [some (.ref 0), some (.tup ds), none, none]) (h1 := o1 :: r) (by simp [startR, h0, eu, hds, e1, c0])]
          obtain ⟨a, o2, e2, B2, a0, a1⟩ := take_call tk (k := j + k + 2) (r := r) B1 (m := (ds.length : Int)) (by omega) (by omega)
          obtain ⟨w, o3, e3, B3, w0, w1⟩ := take_call tk (k := j + k + 2) (r := r) B2 (m := 8) (by decide) (by decide)
          obtain ⟨an, rfl⟩ := Int.eq_ofNat_of_zero_le a0
          rw [seq_nx (ρ1 := [some (.ref 0), some (.tup ds), some (.int an), some (.int w)]) (h1 := o3 :: r) (zPar_at (a := .int an) (b := .int w) (h1 := o3 :: r) (by simp [e2, e3]))]
          obtain ⟨x, hx, ex⟩ := idx_tup (h := o3 :: r) (xs := ds) (i := (an : Int)) (by omega) a1
          have hn1 : (an : Int) + 1 = ((an + 1 : Nat) : Int) := by omega
          have pre : ∀ d ∈ ds.take an, Th n k d := fun d hd => hp d (List.mem_of_mem_take hd)
          have post : ∀ d ∈ ds.drop (an + 1), Th n k d := fun d hd => hp d (List.mem_of_mem_drop hd)
          have llen : (ds.take an).length + (ds.drop (an + 1)).length ≤ 3 := by
            simp only [List.length_take, List.length_drop]
            omega
          have big : ∀ (n2 m : Nat) (y : D) (l r : List D), (∀ d ∈ l, Th n k d) → (∀ d ∈ r, Th n k d) → l.length + r.length ≤ 3 → Mx n2 (k + 26) (k + 3) y → n2 ≤ 16000 + k * (5 * n + 20) → Mx (16000 + (k + 1) * (5 * n + 20)) (k + 1 + 26) (k + 1 + 3) (.tup (l ++ [y] ++ r)) := fun n2 m y l r h1 h2 h3 h4 h5 =>
            (mx_tup h1 h2 h4 (by omega) h3).mono (by rw [Nat.add_mul]; omega) (by omega) (by omega)
          by_cases c1 : w = 0
          · refine ⟨.tup (ds ++ [x]), o3, ?_, ?_, B3⟩
            · rw [seq_rt (d := .tup (ds ++ [x])) (h1 := o3 :: r)]
              · rfl
              · simp [c1, ex, h1, add_tup (show ds.length + [x].length ≤ 1000 by simp; omega)]
            · have := big n 0 x ds [] hp (fun d hd => by cases hd) (by simp; omega) ((hp x hx).mx.mono (Nat.le_refl _) (by omega) (by omega))
              simp only [List.append_nil] at this
              by_cases q : n ≤ 16000 + k * (5 * n + 20)
              · exact this q
              · have z := (mx_tup (n := n) (n2 := n) (m := k + 26) (k := k) (l := ds) (r := []) (x := x) hp (fun d hd => by cases hd) ((hp x hx).mx.mono (Nat.le_refl _) (by omega) (by omega)) (by omega) (by simp; omega))
                simp only [List.append_nil] at z
                exact z.mono (by rw [Nat.add_mul]; omega) (by omega) (by omega)
          · rw [seq_nx (ρ1 := [some (.ref 0), some (.tup ds), some (.int an), some (.int w)]) (h1 := o3 :: r) (by simp [c1])]
            by_cases c2 : w = 1
            · refine ⟨.tup (ds.take an ++ ds.drop (an + 1)), o3, ?_, ?_, B3⟩
              · rw [seq_rt (d := .tup (ds.take an ++ ds.drop (an + 1))) (h1 := o3 :: r)]
                · rfl
                · simp only [zIf_at, yV_at, xBin_at, xV_at, xC_at, List.getElem?_cons_succ, List.getElem?_cons_zero, bind_ok, Ax.eq_int, c2, decide_true, isB_at, of_ok, if_true, zRet_at, xSlc_at, xNo_at, xSome_at, isI_at, Ax.add_int, hn1, slct_hi, slct_lo]
                  rw [add_tup (by omega)]
                  rfl
              · have ha : ∀ d ∈ ds.take an ++ ds.drop (an + 1), Th n k d := fun d hd => (List.mem_append.mp hd).elim (pre d) (post d)
                obtain ⟨ps, e, l, hps⟩ := cvs_all (P := fun p => Sh n k p ∧ Cl p) fun d hd => (ha d hd).ex
                refine ⟨?_, .tuple ps, ?_, ?_, .inl (cl_tup fun p hp => (hps p hp).2).nd⟩
                · simp only [trk, Bool.and_eq_true, decide_eq_true_eq, List.all_eq_true]
                  refine ⟨by rw [List.length_append]; omega, fun d hd => trk_mono (by omega) (t3_trk (ha d hd).t)⟩
                · simp only [cvs] at e
                  simp only [cv, toP, e, Option.map_some]
                · refine (sh_tup fun p hp => (hps p hp).1).mono ?_ (by omega)
                  rw [l, List.length_append]
                  have := Nat.mul_le_mul_right (n + 2) llen
                  rw [Nat.add_mul (k) 1]
                  omega
            · rw [seq_nx (ρ1 := [some (.ref 0), some (.tup ds), some (.int an), some (.int w)]) (h1 := o3 :: r) (by simp [c2])]
              by_cases c3 : w = 2
              · refine ⟨.lst ds, o3, ?_, ?_, B3⟩
                · rw [seq_rt (d := .lst ds) (h1 := o3 :: r)]
                  · rfl
                  · simp [c3]
                · refine (mx_list (ds := ds) (n := n) (m := k) (k := k + 1 + 3) fun d hd => ?_).mono ?_ (by omega) (Nat.le_refl _)
                  · obtain ⟨p, e, s, c⟩ := (hp d hd).ex
                    exact ⟨p, e, s, c.nd⟩
                  · have := Nat.mul_le_mul_right (n + 2) hl
                    rw [Nat.add_mul k 1]
                    omega
              · rw [seq_nx (ρ1 := [some (.ref 0), some (.tup ds), some (.int an), some (.int w)]) (h1 := o3 :: r) (by simp [c3])]
                obtain ⟨y, o4, e4, x4, B4⟩ := ih j x o3 (by omega) (hp x hx) B3
                refine ⟨.tup (ds.take an ++ [y] ++ ds.drop (an + 1)), o4, ?_, big _ 0 y _ _ pre post llen x4 (Nat.le_refl _), B4⟩
                simp only [zRet_at, xBin_at, xV_at, xC_at, List.getElem?_cons_succ, List.getElem?_cons_zero, bind_ok, xSlc_at, xNo_at, xSome_at, isI_at, Ax.add_int, hn1, slct_hi, slct_lo, xTup_at, xCons_at, xNil_at, xCall_at, xIdx_at, ex, List.length_cons, List.length_nil, if_true, e4, h1]
                rw [add_tup (by simp only [List.length_cons, List.length_nil]; omega)]
                simp only [bind_ok, slct_lo]
                rw [add_tup (by simp only [List.length_append, List.length_cons, List.length_nil]; omega)]
                rfl
    | _ => exact absurd t.t (by simp [t3])
end K11
namespace K11
open PySem PySem.Spec PyProof.Rows L2 Ax
def isIn : D → Bool
  | .int _ => true
  | _ => false
def due (d : D) : List Bool := [isIn d, isNm d, isKd 50 W3 d, isKd 50 W2 d, isFm 50 d]
theorem is_integer_ok {d : D} {k j : Nat} {h : Hh} (tr : trk k d = true) : callN tab (j + 1) "is_integer" [d] h = .ok (.bl (isIn d)) h := by
  rw [call_at t_is_integer rfl]
  cases d with
  | ref _ => simp [trk] at tr
  | scr _ => simp [trk] at tr
  | obj _ _ => simp [trk] at tr
  | val _ => simp [trk] at tr
  | _ => simp [fd_is_integer, b_is_integer, startR, isIn]
theorem law_int_ok {d : D} {k i : Nat} {h : Hh} {ρ : Rho} (tr : trk k d = true) (e : ρ[i]? = some (some d)) : xAnd (xBi .isi (xCons (xV i) (xCons (xC (.val (.ty "int"))) (xNil)))) (xNot (xBi .isi (xCons (xV i) (xCons (xC (.val (.ty "bool"))) (xNil))))) ρ h = .ok (.bl (isIn d)) h := by
  cases d with
  | ref _ => simp [trk] at tr
  | scr _ => simp [trk] at tr
  | obj _ _ => simp [trk] at tr
  | val _ => simp [trk] at tr
  | _ => simp [e, isIn]
theorem toDs_bls {h : Hh} : ∀ ys : List Bool, toDs h (ys.map .bl) = some (ys.map .bool)
  | [] => rfl
  | y :: ys => by
    have := toDs_bls (h := h) ys
    simp only [toDs] at this
    simp only [toDs, List.map_cons, toPs, toP, this]
theorem toD_bls {h : Hh} (ys : List Bool) : toD h (.lst (ys.map .bl)) = some (.list (ys.map .bool)) := by
  have := toDs_bls (h := h) ys
  simp only [toDs] at this
  simp only [toD, toP, this, Option.map_some]
theorem bls_ok : ∀ a b c d e : Bool, (dOk (.list ([a, b, c, d, e].map .bool)) && PyData.eqv (.list ([a, b, c, d, e].map .bool)) (.list ([a, b, c, d, e].map .bool)) && (PyData.list ([a, b, c, d, e].map .bool)).showable && !(PyData.list ([a, b, c, d, e].map .bool)).hasDict && sz (PyData.list ([a, b, c, d, e].map .bool)).shown.length && decide ((PyData.list ([a, b, c, d, e].map .bool)).depth ≤ 150)) = true := by decide +kernel
theorem alike_ok {d : D} {j : Nat} {h : Hh} : callN tab (j + 1) "_law_alike" [.lst ((due d).map .bl), .lst ((due d).map .bl)] h = .ok (.bl true) h := by
  have q := bls_ok (isIn d) (isNm d) (isKd 50 W3 d) (isKd 50 W2 d) (isFm 50 d)
  have td := toD_bls (h := h) (due d)
  unfold due at *
  generalize [isIn d, isNm d, isKd 50 W3 d, isKd 50 W2 d, isFm 50 d] = bs at *
  simp only [Bool.and_eq_true, Bool.not_eq_true', decide_eq_true_eq] at q
  obtain ⟨⟨⟨⟨⟨q1, q2⟩, q3⟩, q4⟩, q5⟩, q6⟩ := q
  have e1 : eqD (.lst (bs.map .bl)) (.lst (bs.map .bl)) h = .ok (.bl true) h := by
    simp only [eqD, difL, asL, ne_eq, not_true_eq_false, decide_false, Bool.false_eq_true, if_false, td, q1, q2, Bool.and_self, if_true]
  have e2 : biS .repr [.lst (bs.map .bl)] h = .ok (.str (PyData.list (bs.map .bool)).shown) h := by
    simp only [biS, bRepr, td, q3, q4, q5, Bool.not_false, Bool.true_or, Bool.and_self, decide_eq_true q6, if_true]
  rw [call_at t__law_alike rfl]
  simp [fd__law_alike, b__law_alike, startR, e1, e2]
/-- both turns of asking -/
theorem ask_loop {d : D} {s : Str} (a : Ask d) (es : ∀ h, biS .repr [d] h = .ok (.str s) h) {b0 b1 b9 : D} {o2 o3 o5 o7 o10 o11 : Option D} {h : Hh} {j : Nat} (l : List D) :
    ∃ o7' o10', loopS (gN 7) (zSeq (zSet 10 (xLst (xCons (xCall 1 (callN tab (j + 54) "is_integer") (xCons (xV 4) (xNil))) (xCons (xCall 1 (callN tab (j + 54) "is_name") (xCons (xV 4) (xNil))) (xCons (xCall 1 (callN tab (j + 54) "is_kind") (xCons (xV 4) (xNil))) (xCons (xCall 1 (callN tab (j + 54) "is_plain") (xCons (xV 4) (xNil))) (xCons (xCall 1 (callN tab (j + 54) "is_form") (xCons (xV 4) (xNil))) (xNil))))))))
    (zIf (yOr (yNot (yV (xCall 2 (callN tab (j + 54) "_law_alike") (xCons (xV 10) (xCons (xV 6) (xNil)))))) (yV (xBin neD (xBi .repr (xCons (xV 4) (xNil))) (xV 8)))) (zRet (xC (.bl false))) (zNext)))
      l [some b0, some b1, o2, o3, some d, o5, some (.lst ((due d).map .bl)), o7, some (.str s), some b9, o10, o11] h =
      .nx [some b0, some b1, o2, o3, some d, o5, some (.lst ((due d).map .bl)), o7', some (.str s), some b9, o10', o11] h := by
  have h5 : sz 5 = true := by decide
  have f1 := is_integer_ok (j := j + 53) (h := h) a.t
  have f2 := is_name_ok (j := j + 53) (h := h) a.t
  have f3 := is_kind_ok (h := h) 50 d (j + 2) a.t
  have f4 := is_plain_ok (j := j + 1) (h := h) a.t
  have f5 := is_form_ok (h := h) 50 d (j + 1) a.t
  rw [show j + 2 + 50 + 2 = j + 54 by omega] at f3
  rw [show j + 1 + 50 + 3 = j + 54 by omega, plain_eq] at f4
  rw [show j + 1 + 50 + 3 = j + 54 by omega] at f5
  have f6 := alike_ok (d := d) (j := j + 53) (h := h)
  induction l generalizing o7 o10 with
  | nil => exact ⟨o7, o10, rfl⟩
  | cons x l ih =>
    obtain ⟨p, q, e⟩ := ih (o7 := some x) (o10 := some (.lst ((due d).map .bl)))
    refine ⟨p, q, ?_⟩
    rw [← e]
    simp only [loopS, gN_at, List.set_cons_succ, List.set_cons_zero]
    rw [seq_nx (ρ1 := [some b0, some b1, o2, o3, some d, o5, some (.lst ((due d).map .bl)), some x, some (.str s), some b9, some (.lst ((due d).map .bl)), o11]) (h1 := h)]
    · simp [f6, es]
    · simp [f1, f2, f3, f4, f5, h5, due]
end K11
namespace K11
open PySem PySem.Spec PyProof.Rows L2 Ax
/-- the judging of one thing: from the kept text on -/
def bJudge (cl : Str → List D → Hh → Res D) : Fs :=
  zSeq (zPar 8 9 (xCons (xBi .repr (xCons (xV 4) (xNil))) (xCons (xLst (xCons (xC (.str "list")) (xCons (xC (.str "pair")) (xCons (xC (.str "fun")) (xNil))))) (xNil))))
    (zSeq (zSet 6 (xLst (xCons (xAnd (xBi .isi (xCons (xV 4) (xCons (xC (.val (.ty "int"))) (xNil)))) (xNot (xBi .isi (xCons (xV 4) (xCons (xC (.val (.ty "bool"))) (xNil)))))) (xCons (xCall 1 (cl "_law_is_name") (xCons (xV 4) (xNil))) (xNil)))))
    (zSeq (zSet 6 (xBin addD (xV 6) (xLst (xCons (xCall 2 (cl "_law_is_kind") (xCons (xV 4) (xCons (xV 9) (xNil)))) (xCons (xCall 2 (cl "_law_is_kind") (xCons (xV 4) (xCons (xLst (xCons (xC (.str "list")) (xCons (xC (.str "pair")) (xNil)))) (xNil)))) (xCons (xCall 1 (cl "_law_is_form") (xCons (xV 4) (xNil))) (xNil)))))))
    (zFor (iR1 (xCons (xC (.int 2)) (xNil))) (gN 7) (zSeq (zSet 10 (xLst (xCons (xCall 1 (cl "is_integer") (xCons (xV 4) (xNil))) (xCons (xCall 1 (cl "is_name") (xCons (xV 4) (xNil))) (xCons (xCall 1 (cl "is_kind") (xCons (xV 4) (xNil))) (xCons (xCall 1 (cl "is_plain") (xCons (xV 4) (xNil))) (xCons (xCall 1 (cl "is_form") (xCons (xV 4) (xNil))) (xNil))))))))
    (zIf (yOr (yNot (yV (xCall 2 (cl "_law_alike") (xCons (xV 10) (xCons (xV 6) (xNil)))))) (yV (xBin neD (xBi .repr (xCons (xV 4) (xNil))) (xV 8)))) (zRet (xC (.bl false))) (zNext))))))
/-- a state of the law's slots -/
def stL (b0 : D) (ot on oth ow od oa oe okp ofd oat oz : Option D) : Rho := [some b0, some (.ref 0), ot, on, oth, ow, od, oa, oe, okp, ofd, oat]
theorem judge_ok {d b0 : D} (a : Ask d) {o2 o3 o5 o6 o7 o8 o9 o10 o11 : Option D} {h : Hh} : ∃ o6' o7' o8' o9' o10', bJudge (callN tab 59) [some b0, some (.ref 0), o2, o3, some d, o5, o6, o7, o8, o9, o10, o11] h =
    .nx [some b0, some (.ref 0), o2, o3, some d, o5, o6', o7', o8', o9', o10', o11] h := by
  obtain ⟨s, es⟩ := a.repr
  have h3 : sz 3 = true := by decide
  have h2 : sz 2 = true := by decide
  have g1 := law_is_name_ok (j := 58) (h := h) a.t
  have g2 := law_is_kind_ok (h := h) (wl := [.str "list", .str "pair", .str "fun"]) (ws := W3) (fun x hx => hx) (fun x => nin_W3) 50 d 7 a.t
  have g3 := law_is_kind_ok (h := h) (wl := [.str "list", .str "pair"]) (ws := W2) (fun x hx => by simp only [List.mem_cons, List.not_mem_nil, or_false] at hx ⊢; rcases hx with hx | hx <;> simp [hx]) (fun x => nin_W2) 50 d 7 a.t
  have g4 := law_is_form_ok (h := h) 50 d 6 a.t
  have rg : rng1D [.int 2] h = .ok [.int 0, .int 1] h := rfl
  obtain ⟨o7', o10', el⟩ := ask_loop (j := 5) a es (b0 := b0) (b1 := .ref 0) (b9 := .lst [.str "list", .str "pair", .str "fun"]) (o2 := o2) (o3 := o3) (o5 := o5) (o7 := o7) (o10 := o10) (o11 := o11) (h := h) [.int 0, .int 1]
  refine ⟨some (.lst ((due d).map .bl)), o7', some (.str s), some (.lst [.str "list", .str "pair", .str "fun"]), o10', ?_⟩
  unfold bJudge
  rw [seq_nx (ρ1 := [some b0, some (.ref 0), o2, o3, some d, o5, o6, o7, some (.str s), some (.lst [.str "list", .str "pair", .str "fun"]), o10, o11]) (h1 := h) (zPar_at (a := .str s) (b := .lst [.str "list", .str "pair", .str "fun"]) (h1 := h) (by simp [es, h3]))]
  rw [seq_nx (ρ1 := [some b0, some (.ref 0), o2, o3, some d, o5, some (.lst [.bl (isIn d), .bl (isNm d)]), o7, some (.str s), some (.lst [.str "list", .str "pair", .str "fun"]), o10, o11]) (h1 := h)]
  · rw [seq_nx (ρ1 := [some b0, some (.ref 0), o2, o3, some d, o5, some (.lst ((due d).map .bl)), o7, some (.str s), some (.lst [.str "list", .str "pair", .str "fun"]), o10, o11]) (h1 := h)]
    · simp only [zFor_at, iR1_at, xCons_at, xC_at, xNil_at, bind_ok, rg, of_ok]
      exact el
    · have ha : addD (.lst [.bl (isIn d), .bl (isNm d)]) (.lst [.bl (isKd 50 W3 d), .bl (isKd 50 W2 d), .bl (isFm 50 d)]) h = .ok (.lst ((due d).map .bl)) h := add_lst (by simp)
      simp [g2, g3, g4, h2, h3, ha]
  · have li := law_int_ok (i := 4) (h := h) (ρ := [some b0, some (.ref 0), o2, o3, some d, o5, o6, o7, some (.str s), some (.lst [.str "list", .str "pair", .str "fun"]), o10, o11]) a.t rfl
    simp only [zSet_at, xLst_at, xCons_at, li, bind_ok]
    simp [g1, h2]
end K11
namespace K11
open PySem PySem.Spec PyProof.Rows L2 Ax
theorem Mx.ask {d : D} {n m k : Nat} (x : Mx n m k d) (hn : n ≤ 16000000) (hm : m ≤ 150) (hk : k ≤ 50) : Ask d := by
  obtain ⟨p, e, s, c⟩ := x.ex
  exact ⟨trk_mono hk x.t, p, e, s.mono hn hm, c⟩
abbrev slots (b0 : D) (o2 o3 o4 o5 o6 o7 o8 o9 o10 o11 : Option D) : Rho := [some b0, some (.ref 0), o2, o3, o4, o5, o6, o7, o8, o9, o10, o11]
def bChange (cl : Str → List D → Hh → Res D) : Fs :=
  zIf (yV (xBin eqD (xV 5) (xC (.int 0)))) (zSet 4 (xCall 2 (cl "_law_great") (xCons (xV 1) (xCons (xCall 3 (cl "_law_any_kind") (xCons (xV 1) (xCons (xV 3) (xCons (xC (.int 4)) (xNil))))) (xNil))))) (zIf (yV (xBin eqD (xV 5) (xC (.int 1)))) (zSeq (zPar 4 11 (xCons (xCall 2 (cl "_law_one") (xCons (xV 1) (xCons (xV 3) (xNil)))) (xCons (xCall 2 (cl "_law_take") (xCons (xV 1) (xCons (xC (.int 3)) (xNil)))) (xNil))))
    (zSet 4 (xBin addD (xBin addD (xSlc (xV 4) (xNo) (xSome (xV 11))) (xCall 2 (cl "_law_one") (xCons (xV 1) (xCons (xC (.str " !-./09:@AZ[_`{|~az")) (xNil))))) (xSlc (xV 4) (xSome (xV 11)) (xNo))))) (zIf (yV (xBin ltD (xV 5) (xC (.int 5)))) (zSet 4 (xCall 2 (cl "_law_bent") (xCons (xV 1) (xCons (xV 4) (xNil))))) (zNext)))
theorem add_str {h : Hh} {x y : Str} (hl : x.length + y.length ≤ 1000) : addD (.str x) (.str y) h = .ok (.str (x ++ y)) h := by
  simp only [addD, sz_of hl, if_true]
theorem change_ok {xs : List Str} (N : Nms xs) {o : O} {r : Hh} (B : Bg o) {d b0 : D} (t : Th 27000 9 d) {v : Int} {o2 o6 o7 o8 o9 o10 o11 : Option D} :
    ∃ d' o' o11', bChange (callN tab 59) (slots b0 o2 (some (.lst (xs.map .str))) (some d) (some (.int v)) o6 o7 o8 o9 o10 o11) (o :: r) =
      .nx (slots b0 o2 (some (.lst (xs.map .str))) (some d') (some (.int v)) o6 o7 o8 o9 o10 o11') (o' :: r) ∧ Ask d' ∧ Bg o' := by
  unfold bChange
  by_cases c0 : v = 0
  · obtain ⟨e, o1, e1, t1, B1⟩ := any_kind_call N (r := r) 4 53 o (by decide) (by decide) B
    obtain ⟨g, o2', e2, t2, B2⟩ := great_call (j := 57) (r := r) t1 B1
    refine ⟨g, o2', o11, ?_, t2.ask (by decide) (by decide), B2⟩
    have e1' : callN tab 59 "_law_any_kind" [.ref 0, .lst (xs.map .str), .int 4] (o :: r) = .ok e (o1 :: r) := e1
    simp [c0, e1', e2]
  · by_cases c1 : v = 1
    · obtain ⟨x, o1, e1, s1, B1⟩ := one_nm N (j := 57) (r := r) B
      obtain ⟨a, o2', e2, B2, a0, a1⟩ := take_call tk (k := 58) (r := r) B1 (m := 3) (by decide) (by decide)
      obtain ⟨c, o3, e3, hc, B3⟩ := one_str tk t1 (j := 57) (r := r) B2 (z := " !-./09:@AZ[_`{|~az") (by decide +kernel) (by decide +kernel)
      have sz0 : SS 19 (" !-./09:@AZ[_`{|~az" : Str) := ss_of (by decide +kernel)
      have sc : SS 1 ⟨#[c]⟩ := ⟨Nat.le_refl 1, fun c' hc' => by
        have : c' = c := by simpa using hc'
        rw [this]
        exact sz0.sm c hc⟩
      have k1 := ss_cut (lo := none) (hi := some a) s1
      have k2 := ss_cut (lo := some a) (hi := none) s1
      have k3 := ss_app k1 sc
      have k4 := ss_app k3 k2
      refine ⟨.str (cutS x none (some a) ++ ⟨#[c]⟩ ++ cutS x (some a) none), o3, some (.int a), ?_, (th_str (k := 0) k4 (by decide)).ask (by decide) (by decide), B3⟩
      have hx : x.length ≤ 1000 := Nat.le_trans s1.le (by decide)
      have z1 := k1.le
      have z2 := k2.le
      have z3 := k3.le
      have z4 := sc.le
      simp only [slots, zIf_at, yV_at, xBin_at, xV_at, xC_at, List.getElem?_cons_succ, List.getElem?_cons_zero, bind_ok, Ax.eq_int, c1, decide_true, isB_at, of_ok, if_true, show decide ((1 : Int) = 0) = false by decide, Bool.false_eq_true, if_false]
      rw [seq_nx (ρ1 := slots b0 o2 (some (.lst (xs.map .str))) (some (.str x)) (some (.int 1)) o6 o7 o8 o9 o10 (some (.int a))) (h1 := o2' :: r) (zPar_at (a := .str x) (b := .int a) (h1 := o2' :: r) (by simp [e1, e2]))]
      simp only [slots, zSet_at, xBin_at, xSlc_at, xV_at, xC_at, List.getElem?_cons_succ, List.getElem?_cons_zero, bind_ok, xNo_at, xSome_at, isI_at, slc_str hx, xCall_at, xCons_at, xNil_at, List.length_cons, List.length_nil, if_true, e3]
      rw [add_str (by omega)]
      simp only [bind_ok, slc_str hx]
      rw [add_str (by omega)]
      rfl
    · by_cases c2 : v < 5
      · obtain ⟨d', o1, e1, x1, B1⟩ := bent_call (n := 27000) (r := r) 9 47 d o (by decide) t B
        refine ⟨d', o1, o11, ?_, x1.ask (by decide) (by decide) (by decide), B1⟩
        have e1' : callN tab 59 "_law_bent" [.ref 0, d] (o :: r) = .ok d' (o1 :: r) := e1
        simp [c0, c1, c2, e1']
      · refine ⟨d, o, o11, ?_, t.ask (by decide) (by decide), B⟩
        simp [c0, c1, c2]
/-- one turn -/
theorem turn_ok {o : O} {r : Hh} (B : Bg o) {b0 : D} {o2 o3 o4 o5 o6 o7 o8 o9 o10 o11 : Option D} : ∃ p2 p3 p4 p5 p6 p7 p8 p9 p10 p11 o', zSeq (zSet 3 (xCall 2 (callN tab 59 "_law_names") (xCons (xV 1) (xCons (xC (.int 3)) (xNil)))))
    (zSeq (zSet 4 (xIfe (yV (xBin eqD (xCall 2 (callN tab 59 "_law_take") (xCons (xV 1) (xCons (xC (.int 2)) (xNil)))) (xC (.int 0)))) (xCall 3 (callN tab 59 "_law_any_kind") (xCons (xV 1) (xCons (xV 3) (xCons (xC (.int 9)) (xNil))))) (xCall 3 (callN tab 59 "_law_way") (xCons (xV 1) (xCons (xV 3) (xCons (xC (.int 3)) (xNil)))))))
    (zSeq (zSet 5 (xCall 2 (callN tab 59 "_law_take") (xCons (xV 1) (xCons (xC (.int 6)) (xNil))))) (zSeq (bChange (callN tab 59)) (bJudge (callN tab 59))))) (slots b0 o2 o3 o4 o5 o6 o7 o8 o9 o10 o11) (o :: r) =
      .nx (slots b0 p2 p3 p4 p5 p6 p7 p8 p9 p10 p11) (o' :: r) ∧ Bg o' := by
  obtain ⟨xs, q1, e1, l1, s1, B1⟩ := names_call tk tn (j := 57) (r := r) B (m := 3) (by decide)
  have e1' : callN tab 59 "_law_names" [.ref 0, .int 3] (o :: r) = .ok (.lst (xs.map .str)) (q1 :: r) := e1
  have N : Nms xs := ⟨by omega, by omega, s1⟩
  obtain ⟨v, q2, e2, B2, v0, v1⟩ := take_call tk (k := 58) (r := r) B1 (m := 2) (by decide) (by decide)
  have mk : ∃ d q3, (xIfe (yV (xBin eqD (xCall 2 (callN tab 59 "_law_take") (xCons (xV 1) (xCons (xC (.int 2)) (xNil)))) (xC (.int 0)))) (xCall 3 (callN tab 59 "_law_any_kind") (xCons (xV 1) (xCons (xV 3) (xCons (xC (.int 9)) (xNil))))) (xCall 3 (callN tab 59 "_law_way") (xCons (xV 1) (xCons (xV 3) (xCons (xC (.int 3)) (xNil))))))
      (slots b0 o2 (some (.lst (xs.map .str))) o4 o5 o6 o7 o8 o9 o10 o11) (q1 :: r) = .ok d (q3 :: r) ∧ Th 27000 9 d ∧ Bg q3 := by
    by_cases c : v = 0
    · obtain ⟨d, q3, e3, t3, B3⟩ := any_kind_call N (r := r) 9 48 q2 (by decide) (by decide) B2
      have e3' : callN tab 59 "_law_any_kind" [.ref 0, .lst (xs.map .str), .int 9] (q2 :: r) = .ok d (q3 :: r) := e3
      exact ⟨d, q3, by simp [e2, c, e3'], t3.mono (by decide) (by decide), B3⟩
    · obtain ⟨d, q3, e3, t3, B3⟩ := way_call N (r := r) 3 49 q2 (by decide) B2
      have e3' : callN tab 59 "_law_way" [.ref 0, .lst (xs.map .str), .int 3] (q2 :: r) = .ok d (q3 :: r) := e3
      exact ⟨d, q3, by simp [e2, c, e3'], t3.mono (by decide) (by decide), B3⟩
  obtain ⟨d, q3, e3, t3, B3⟩ := mk
  obtain ⟨u, q4, e4, B4, u0, u1⟩ := take_call tk (k := 58) (r := r) B3 (m := 6) (by decide) (by decide)
  obtain ⟨d5, q5, o11', e5, a5, B5⟩ := change_ok N (r := r) B4 (b0 := b0) t3 (v := u) (o2 := o2) (o6 := o6) (o7 := o7) (o8 := o8) (o9 := o9) (o10 := o10) (o11 := o11)
  obtain ⟨p6, p7, p8, p9, p10, e6⟩ := judge_ok (b0 := b0) a5 (o2 := o2) (o3 := some (.lst (xs.map .str))) (o5 := some (.int u)) (o6 := o6) (o7 := o7) (o8 := o8) (o9 := o9) (o10 := o10) (o11 := o11') (h := q5 :: r)
  refine ⟨o2, some (.lst (xs.map .str)), some d5, some (.int u), p6, p7, p8, p9, p10, o11', q5, ?_, B5⟩
  rw [seq_nx (ρ1 := slots b0 o2 (some (.lst (xs.map .str))) o4 o5 o6 o7 o8 o9 o10 o11) (h1 := q1 :: r) (by simp [e1'])]
  rw [seq_nx (ρ1 := slots b0 o2 (some (.lst (xs.map .str))) (some d) o5 o6 o7 o8 o9 o10 o11) (h1 := q3 :: r) (by rw [zSet_at, e3]; rfl)]
  rw [seq_nx (ρ1 := slots b0 o2 (some (.lst (xs.map .str))) (some d) (some (.int u)) o6 o7 o8 o9 o10 o11) (h1 := q4 :: r) (by simp [e4])]
  rw [seq_nx e5]
  exact e6
theorem law_true : ∀ ns : List Int, ns.length ≤ 63 → ∃ hE, callN tab 60 "law" [.scr ns] [] = .ok (.bl true) hE := by
  intro ns hl
  obtain ⟨o, e0, B⟩ := bag_call tb (j := 58) (ns := ns) (by omega)
  rw [call_at t_law rfl]
  have rg : rng1D [.int 30] [o] = .ok ((List.range 30).map fun (k : Nat) => .int (0 + (k : Int))) [o] := rng_at (j := 30) (by decide) (by decide)
  obtain ⟨ρ', h', el, hI⟩ := loop_inv (ds := (List.range 30).map fun (k : Nat) => D.int (0 + (k : Int))) (t := gN 2)
    (b := zSeq (zSet 3 (xCall 2 (callN tab 59 "_law_names") (xCons (xV 1) (xCons (xC (.int 3)) (xNil)))))
    (zSeq (zSet 4 (xIfe (yV (xBin eqD (xCall 2 (callN tab 59 "_law_take") (xCons (xV 1) (xCons (xC (.int 2)) (xNil)))) (xC (.int 0)))) (xCall 3 (callN tab 59 "_law_any_kind") (xCons (xV 1) (xCons (xV 3) (xCons (xC (.int 9)) (xNil))))) (xCall 3 (callN tab 59 "_law_way") (xCons (xV 1) (xCons (xV 3) (xCons (xC (.int 3)) (xNil)))))))
    (zSeq (zSet 5 (xCall 2 (callN tab 59 "_law_take") (xCons (xV 1) (xCons (xC (.int 6)) (xNil))))) (zSeq (bChange (callN tab 59)) (bJudge (callN tab 59))))))
    (I := fun ρ h => ∃ o2 o3 o4 o5 o6 o7 o8 o9 o10 o11 o, ρ = slots (.scr ns) o2 o3 o4 o5 o6 o7 o8 o9 o10 o11 ∧ h = [o] ∧ Bg o)
    (ρ := slots (.scr ns) none none none none none none none none none none) (h := [o])
    (fun d _ ρ h ⟨o2, o3, o4, o5, o6, o7, o8, o9, o10, o11, o, e1, e2, B⟩ => by
      subst e1 e2
      obtain ⟨p2, p3, p4, p5, p6, p7, p8, p9, p10, p11, o', e, B'⟩ := turn_ok (r := []) B (b0 := .scr ns) (o2 := some d) (o3 := o3) (o4 := o4) (o5 := o5) (o6 := o6) (o7 := o7) (o8 := o8) (o9 := o9) (o10 := o10) (o11 := o11)
      exact ⟨_, _, _, rfl, e, p2, p3, p4, p5, p6, p7, p8, p9, p10, p11, o', rfl, rfl, B'⟩)
    ⟨none, none, none, none, none, none, none, none, none, none, o, rfl, rfl, B⟩
  refine ⟨h', ?_⟩
  show endB (zSeq _ _ _ _) = _
  have a1 : zSet 1 (xCall 1 (callN tab 59 "_law_bag") (xCons (xV 0) (xNil))) (startR 12 [.scr ns]) [] = .nx (slots (.scr ns) none none none none none none none none none none) [o] := by
    simp [startR, e0]
  have a2 : fd_law.body (callN tab 59) (startR fd_law.nl [.scr ns]) [] = .rt (.bl true) h' := by
    show zSeq _ _ _ _ = _
    refine (seq_nx a1).trans ?_
    refine (seq_nx (ρ1 := ρ') (h1 := h') ?_).trans ?_
    · simp only [zFor_at, iR1_at, xCons_at, xC_at, xNil_at, bind_ok, rg, of_ok]
      exact el
    · simp
  exact congrArg endB a2
end K11
open PySem PySem.W PyProof.Rows
set_option maxHeartbeats 0 in
theorem PySem.Challenge.cw_unaskedways_k11_kinds_of_any_value_holds : PySem.Challenge.rw_unaskedways_k11_kinds_of_any_value.Holds := by
  w_on; o_law; k_head; (case hw => w_witness2)
  k_fill
  refine Ax.law_walk (l := PySem.Challenge.rw_unaskedways_k11_kinds_of_any_value) (n := 63) (k := 60) (x := "_law_script") (y := "law") (T := K11.tab) rfl (by decide) rfl ⟨⟨rfl, by decide, by decide⟩, rfl⟩ (fun w h Y => PySem.W.kIn_of Y) ?F K11.law_true
  case F =>
    intro w mg fa h KX N hmg
    refine' K11.all_mk KX N hmg ?G ?h_is_integer ?h_is_name ?h_is_word ?h_is_kind ?h_parts ?h_has_functions ?h_is_plain ?h_is_form ?h__law_bag ?h__law_take ?h__law_alike ?h__law_one ?h__law_names ?h__law_any_kind ?h__law_is_name ?h__law_is_kind ?h__law_is_form ?h__law_odd ?h__law_way ?h__law_bent ?h__law_great ?a ?l ?c ?k
    case G =>
      refine' K11.gf_mk KX N ?z_len ?z_list ?z_tuple ?z_sum ?z_max ?z_min ?z_abs ?z_int ?z_sorted ?z_repr ?z_all ?z_any ?z_isinstance ?z_bool ?z_range ?z_str ?c_LETTERS ?c_WIDTHS ?e_WIDTHS ?f_WIDTHS ?g_WIDTHS ?k_WIDTHS_0 ?k_WIDTHS_1 ?k_WIDTHS_2
      case z_len => k_is
      case z_list => k_is
      case z_tuple => k_is
      case z_sum => k_is
      case z_max => k_is
      case z_min => k_is
      case z_abs => k_is
      case z_int => k_is
      case z_sorted => k_is
      case z_repr => k_is
      case z_all => k_is
      case z_any => k_is
      case z_isinstance => k_is
      case z_bool => k_is
      case z_range => k_is
      case z_str => k_is
      case c_LETTERS => k_is
      case c_WIDTHS => k_is
      case e_WIDTHS => k_is
      case f_WIDTHS => rfl
      case g_WIDTHS => rfl
      case k_WIDTHS_0 => k_is
      case k_WIDTHS_1 => k_is
      case k_WIDTHS_2 => k_is
    case h_is_integer =>
      refine' K11.ff_mk ?a_is_integer ?l_is_integer ?c_is_integer ?k_is_integer
      case a_is_integer => k_is
      case l_is_integer => k_is
      case c_is_integer => k_is
      case k_is_integer => k_is
    case h_is_name =>
      refine' K11.ff_mk ?a_is_name ?l_is_name ?c_is_name ?k_is_name
      case a_is_name => k_is
      case l_is_name => k_is
      case c_is_name => k_is
      case k_is_name => k_is
    case h_is_word =>
      refine' K11.ff_mk ?a_is_word ?l_is_word ?c_is_word ?k_is_word
      case a_is_word => k_is
      case l_is_word => k_is
      case c_is_word => k_is
      case k_is_word => k_is
    case h_is_kind =>
      refine' K11.ff_mk ?a_is_kind ?l_is_kind ?c_is_kind ?k_is_kind
      case a_is_kind => k_is
      case l_is_kind => k_is
      case c_is_kind => k_is
      case k_is_kind => k_is
    case h_parts =>
      refine' K11.ff_mk ?a_parts ?l_parts ?c_parts ?k_parts
      case a_parts => k_is
      case l_parts => k_is
      case c_parts => k_is
      case k_parts => k_is
    case h_has_functions =>
      refine' K11.ff_mk ?a_has_functions ?l_has_functions ?c_has_functions ?k_has_functions
      case a_has_functions => k_is
      case l_has_functions => k_is
      case c_has_functions => k_is
      case k_has_functions => k_is
    case h_is_plain =>
      refine' K11.ff_mk ?a_is_plain ?l_is_plain ?c_is_plain ?k_is_plain
      case a_is_plain => k_is
      case l_is_plain => k_is
      case c_is_plain => k_is
      case k_is_plain => k_is
    case h_is_form =>
      refine' K11.ff_mk ?a_is_form ?l_is_form ?c_is_form ?k_is_form
      case a_is_form => k_is
      case l_is_form => k_is
      case c_is_form => k_is
      case k_is_form => k_is
    case h__law_bag =>
      refine' K11.ff_mk ?a__law_bag ?l__law_bag ?c__law_bag ?k__law_bag
      case a__law_bag => k_is
      case l__law_bag => k_is
      case c__law_bag => k_is
      case k__law_bag => k_is
    case h__law_take =>
      refine' K11.ff_mk ?a__law_take ?l__law_take ?c__law_take ?k__law_take
      case a__law_take => k_is
      case l__law_take => k_is
      case c__law_take => k_is
      case k__law_take => k_is
    case h__law_alike =>
      refine' K11.ff_mk ?a__law_alike ?l__law_alike ?c__law_alike ?k__law_alike
      case a__law_alike => k_is
      case l__law_alike => k_is
      case c__law_alike => k_is
      case k__law_alike => k_is
    case h__law_one =>
      refine' K11.ff_mk ?a__law_one ?l__law_one ?c__law_one ?k__law_one
      case a__law_one => k_is
      case l__law_one => k_is
      case c__law_one => k_is
      case k__law_one => k_is
    case h__law_names =>
      refine' K11.ff_mk ?a__law_names ?l__law_names ?c__law_names ?k__law_names
      case a__law_names => k_is
      case l__law_names => k_is
      case c__law_names => k_is
      case k__law_names => k_is
    case h__law_any_kind =>
      refine' K11.ff_mk ?a__law_any_kind ?l__law_any_kind ?c__law_any_kind ?k__law_any_kind
      case a__law_any_kind => k_is
      case l__law_any_kind => k_is
      case c__law_any_kind => k_is
      case k__law_any_kind => k_is
    case h__law_is_name =>
      refine' K11.ff_mk ?a__law_is_name ?l__law_is_name ?c__law_is_name ?k__law_is_name
      case a__law_is_name => k_is
      case l__law_is_name => k_is
      case c__law_is_name => k_is
      case k__law_is_name => k_is
    case h__law_is_kind =>
      refine' K11.ff_mk ?a__law_is_kind ?l__law_is_kind ?c__law_is_kind ?k__law_is_kind
      case a__law_is_kind => k_is
      case l__law_is_kind => k_is
      case c__law_is_kind => k_is
      case k__law_is_kind => k_is
    case h__law_is_form =>
      refine' K11.ff_mk ?a__law_is_form ?l__law_is_form ?c__law_is_form ?k__law_is_form
      case a__law_is_form => k_is
      case l__law_is_form => k_is
      case c__law_is_form => k_is
      case k__law_is_form => k_is
    case h__law_odd =>
      refine' K11.ff_mk ?a__law_odd ?l__law_odd ?c__law_odd ?k__law_odd
      case a__law_odd => k_is
      case l__law_odd => k_is
      case c__law_odd => k_is
      case k__law_odd => k_is
    case h__law_way =>
      refine' K11.ff_mk ?a__law_way ?l__law_way ?c__law_way ?k__law_way
      case a__law_way => k_is
      case l__law_way => k_is
      case c__law_way => k_is
      case k__law_way => k_is
    case h__law_bent =>
      refine' K11.ff_mk ?a__law_bent ?l__law_bent ?c__law_bent ?k__law_bent
      case a__law_bent => k_is
      case l__law_bent => k_is
      case c__law_bent => k_is
      case k__law_bent => k_is
    case h__law_great =>
      refine' K11.ff_mk ?a__law_great ?l__law_great ?c__law_great ?k__law_great
      case a__law_great => k_is
      case l__law_great => k_is
      case c__law_great => k_is
      case k__law_great => k_is
    case a => k_is
    case l => k_is
    case c => k_is
    case k => k_is
